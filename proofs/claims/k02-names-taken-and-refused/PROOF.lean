import PyProof.Rows.All
import Wide.All
import OpenK.AllK
import Wide.FinOn
import HandS.Base
import HandS.Call
import HandS.List
import HandS.Comp
import HandS.Dict
import HandS.Iter
import HandS.Text
import HandS.Evl
import HandS.TupAny
import KE.KeyNested
import HandS.Wide
import HandS.Steps
import HandS.Exc
import HandS.Words
import HandS.WordsExc
import PyProof.NeData
import HandS.OwnEq
import HandS.Property
import HandS.IsInst
import HandS.ExcInit
import HandS.Defaults
import KE.KOpsOwn
import PyProof.InstNe
import HandS.Head0
import HandS.ExcField
import HandS.ExcOwn
import HandS.Codes
import HandS.Conv
import HandS.Style
import KE.KStateDown
import HandS.Head1
import HandS.Head2
import HandS.HeadEnd
import HandS.HeadHook1
import HandS.HeadHook2
import HandS.EndBits
import HandS.HeadHook3
import HandS.HeadNt
import HandS.ClsMeth
import HandS.TupMul
import KE.DataCmp
import KE.DatumOrd
import HandS.DictComp
import HandS.RaiseMore
import KE.DataEq
import HandS.Finally
import KE.GoesNew
import KE.GoesMore
import OpenK.KMeth
import HandS.Small
import HandS.TupSets
import HandS.Star
import PyProof.Rows.TupDisplay
import KE.KDictCopyH
import PyProof.FactsAll.dict_2
import KE.GoesDict
import HandS.SetKeys
import HandS.GenCall
import HandS.GenList
import HandS.TryOnly
import KE.GoesEnum
import HandS.FStr
import HandS.HotCalls
import HandS.SetTxt0
import HandS.SetFor
import PyProof.StrBlock2
import HandS.CallSlots
import HandS.CallLocal
import PySem.Challenge.RW_alsoshown_k02_names_taken_and_refused
set_option Elab.async false
set_option linter.all false
set_option maxRecDepth 100000
set_option maxHeartbeats 4000000
namespace DL
open PySem L2 PySem.W
def lineOk (C : Addr) (cd : ClassData) : Bool := !cd.hasDel && (cd.hasDict && (match cd.mro with
  | x :: r => x == .ref C && PySem.HandSPX.refsVE r
  | [] => false))
def slotsOk (sl : Array (Option Value)) : Bool := sl.size == 6 && sl[4]? == some (some (.builtin "ValueError.__new__"))
def errObj (C : Addr) (o : Obj) : Bool := o.cls == .type "type" && (slotsOk o.slots && (match o.data with
  | .cls cd => lineOk C cd
  | _ => false))
def oexB (K : PySem.W.Frag) (C : Addr) : Bool := (K.lookup C).any (errObj C) && (decide (findIn K (.ref C) "__setattr__" = some (some (.builtin "object.__setattr__"))) && (decide (subIn K (.ref C) (.type "BaseException") = some true) && (decide (typeIn K (.ref C) = some (.type "type")) && keepIn K (.ref C))))
def xcB (K : PySem.W.Frag) (C : Addr) : Bool := oexB K C && xfB K C
def EqT (K : PySem.W.Frag) (C : Addr) : Prop := ∀ T ∈ ["NoneType", "bool", "int", "str", "list", "tuple"], subIn K (.type T) (.ref C) = some false
structure ClsI (K : PySem.W.Frag) (C : Addr) : Prop where
  cl : Cls K C
  ha : findIn K (.ref C) "__class__" = some (some (.builtin "object.__class__"))
  hn : specialIn K (.builtin "object.__class__") "__get__" = some (some (.builtin "getset_descriptor.__get__"))
  htk : takesIn K (.builtin "object.__class__") = some true
  hm : mroIn K C (.type "object") = some true
structure Sm (K : PySem.W.Frag) (C : Addr) (m : Str) (f : Addr) : Prop where
  at_ : findIn K (.ref C) m = some (some (.ref f))
  fn : isFn K (.ref f) = true
structure Bo (K : PySem.W.Frag) (C : Addr) (op : Operator) (f : Addr) : Prop where
  first : selfFirst K C = true
  sm : Sm K C (PySem.dunder op.info.2) f
  refl : findIn K (.ref C) (dunderR op.info.2) = some none
structure BoT (K : PySem.W.Frag) (C : Addr) (op : Operator) (T : String) : Prop where
  l : ∃ fo, findIn K (.type T) (PySem.dunder op.info.2) = some fo
  r : ∃ ro, findIn K (.type T) (dunderR op.info.2) = some ro
  sub : subIn K (.type T) (.ref C) = some false
end DL
/-! DK: what the head tells of a text's defs and classes (own work). -/
namespace DL
open PySem L2 PySem.W

/-- the getter of the property m of the class at C -/
def pga (K : PySem.W.Frag) (C : Addr) (m : Str) : Addr := match recIn K (He.ma K C m) "property" with
  | some (.ref g :: _) => g
  | _ => 0
/-! the picture of a def: all that the text fixes of it -/
structure Pic where
  nm : Str
  qn : Str
  pars : Arguments
  code : FuncBody
  sco : Scope
  env : Addr × Addr
  clo : List (Str × Addr)
def picOf (f : FuncData) : Pic := ⟨f.name, f.qualname, f.params, f.body, f.scope, (f.globals, f.builtins), f.closure⟩
def asFn : Data → Option FuncData
  | .func f => some f
  | _ => none
def fnAt (K : PySem.W.Frag) (a : Addr) : Option FuncData := (K.lookup a).bind fun o => asFn o.data
theorem asFn_some {dt : Data} {f : FuncData} (h : asFn dt = some f) : dt = .func f := by
  cases dt <;> first | (cases h; rfl) | cases h
theorem fnAt_some {K : PySem.W.Frag} {a : Addr} {f : FuncData} (h : fnAt K a = some f) : ∃ o, K.lookup a = some o ∧ o.data = .func f := by
  obtain ⟨o, h1, h2⟩ := Option.bind_eq_some_iff.mp h
  exact ⟨o, h1, asFn_some h2⟩
/-- a def of the text: where it stands, its picture, its defaults -/
structure Df where
  at_ : PySem.W.Frag → Addr
  name : Str
  qual : Str
  params : Arguments
  body : List Stmt
  scope : Scope
  dfs : PySem.W.Frag → List V
def Df.pic (d : Df) : Pic := ⟨d.name, d.qual, d.params, .stmts d.body, d.scope, (mainGlobals, builtinsNs), []⟩
def Df.good (K : PySem.W.Frag) (d : Df) : Bool := keepIn K (.ref (d.at_ K)) && (fnAt K (d.at_ K)).any fun f => codeIn K f.code d.qual && (He.dflB K f.defaults (d.dfs K) && He.kwdB K f.kwdefaults [])
theorem Df.known {K : PySem.W.Frag} {d : Df} (e : (fnAt K (d.at_ K)).map picOf = some d.pic) (c : d.good K = true) : ∃ fd, FunD K d.name d.qual d.params d.body d.scope (d.dfs K) [] (d.at_ K) fd := by
  have c' := Bool.and_eq_true_iff.mp c
  cases hf : fnAt K (d.at_ K) with
  | none =>
    rw [hf] at e
    cases e
  | some f =>
    rw [hf] at e c'
    have c2 : (codeIn K f.code d.qual && (He.dflB K f.defaults (d.dfs K) && He.kwdB K f.kwdefaults [])) = true := c'.2
    have c3 := Bool.and_eq_true_iff.mp c2
    have c4 := Bool.and_eq_true_iff.mp c3.2
    obtain ⟨o, lk, hd⟩ := fnAt_some hf
    have same : f = PySem.W.fnOf d.name d.qual d.params d.body d.scope f.defaults f.kwdefaults f.doc f.pyModule f.annotations f.code f.closureTuple := by
      have e1 : picOf f = d.pic := Option.some.inj e
      have n := congrArg Pic.nm e1
      have qn := congrArg Pic.qn e1
      have ps := congrArg Pic.pars e1
      have bd := congrArg Pic.code e1
      have sc := congrArg Pic.sco e1
      have ev := congrArg Pic.env e1
      have cl := congrArg Pic.clo e1
      have g := congrArg Prod.fst ev
      have bt := congrArg Prod.snd ev
      cases f
      cases n; cases qn; cases ps; cases bd; cases sc; cases cl; cases g; cases bt
      rfl
    have lk2 : K.lookup (d.at_ K) = some ⟨o.cls, o.dict, .func f, o.slots⟩ := by
      rw [lk, ← hd]
    exact ⟨f, ⟨o.cls, o.dict, f.defaults, f.kwdefaults, f.doc, f.pyModule, f.annotations, f.code, f.closureTuple, o.slots, same, lk2, c3.1, He.dflB_ok c4.1, He.kwdB_ok c4.2⟩, c'.1⟩
abbrev Fx := PySem.W.Frag → Bool
/-- all facts and all defs of a text, looked at in one heap -/
abbrev AlY : Type := Bool × List (Option Pic)
def lookY (ex : List Fx) (fn : List Df) (K : PySem.W.Frag) : AlY := (ex.all (· K) && fn.all (Df.good K), fn.map fun d => (fnAt K (d.at_ K)).map picOf)
def dueY (fn : List Df) : AlY := (true, fn.map fun d => some d.pic)
def SaysY (ex : List Fx) (fn : List Df) (K : PySem.W.Frag) : Prop := lookY ex fn K = dueY fn
section
variable {ex : List Fx} {fn : List Df} {K : PySem.W.Frag}
theorem SaysY.both (c : SaysY ex fn K) : (∀ f ∈ ex, f K = true) ∧ ∀ d ∈ fn, Df.good K d = true := by
  have c1 : (ex.all (· K) && fn.all (Df.good K)) = true := congrArg Prod.fst c
  rw [Bool.and_eq_true, List.all_eq_true, List.all_eq_true] at c1
  exact c1
theorem SaysY.fact (c : SaysY ex fn K) (i : Nat) {f : Fx} (h : ex[i]? = some f := by rfl) : f K = true := c.both.1 f (List.mem_of_getElem? h)
theorem SaysY.def_ (c : SaysY ex fn K) (i : Nat) {d : Df} (h : fn[i]? = some d := by rfl) : ∃ fd, FunD K d.name d.qual d.params d.body d.scope (d.dfs K) [] (d.at_ K) fd := by
  refine Df.known ?_ (c.both.2 d (List.mem_of_getElem? h))
  have e := congrArg (fun z : AlY => z.2[i]?) c
  simp only [lookY, dueY, List.getElem?_map, h, Option.map_some, Option.some.injEq] at e
  exact e
end
/-! ### the facts, by Bool -/
section
variable {K : PySem.W.Frag} {C : Addr}
def fGlo (x : Str) : Fx := fun K => (He.Fa.glo x).ok K && keepIn K (.ref (He.ga K x))
def fFree (x : Str) : Fx := fun K => (He.Fa.free x).ok K
def fStr (x z : Str) : Fx := fun K => (He.Fa.str x z).ok K
def fInt (x : Str) (i : Int) : Fx := fun K => (He.Fa.int x i).ok K
def fCls (x : Str) : Fx := fun K => (He.Fa.cls x).ok K
def fMkr (x : Str) : Fx := fun K => (He.Fa.mkr x).ok K
def fNoat (x f : Str) : Fx := fun K => (He.Fa.noat x f).ok K
def fMeth (x m : Str) : Fx := fun K => (He.Fa.meth x m).ok K
def fProp (x m : Str) : Fx := fun K => He.eqO (findIn K (.ref (He.ga K x)) m) (some (some (.ref (He.ma K (He.ga K x) m)))) && (He.eqO (specialIn K (.ref (He.ma K (He.ga K x) m)) "__get__") (some (some (.builtin "property.__get__"))) &&
  (decide (takesIn K (.ref (He.ma K (He.ga K x) m)) = some true) && (match recIn K (He.ma K (He.ga K x) m) "property" with
    | some (.ref _ :: _) => true
    | _ => false)))
theorem prop_ok {x m : Str} (h : fProp x m K = true) : PropOf K (He.ga K x) m (He.ma K (He.ga K x) m) (pga K (He.ga K x) m) := by
  obtain ⟨h1, h⟩ := He.ba h
  obtain ⟨h2, h⟩ := He.ba h
  obtain ⟨h3, h4⟩ := He.ba h
  refine ⟨He.eqO_ok h1, He.eqO_ok h2, of_decide_eq_true h3, ?_⟩
  unfold pga
  split at h4
  · rename_i a r q
    rw [q]
    exact ⟨r, rfl⟩
  · cases h4
def fClsI (x : Str) : Fx := fun K => (He.Fa.cls x).ok K && (He.eqO (findIn K (.ref (He.ga K x)) "__class__") (some (some (.builtin "object.__class__"))) && (He.eqO (specialIn K (.builtin "object.__class__") "__get__") (some (some (.builtin "getset_descriptor.__get__"))) &&
  (decide (takesIn K (.builtin "object.__class__") = some true) && decide (mroIn K (He.ga K x) (.type "object") = some true))))
theorem clsI_ok {x : Str} (h : fClsI x K = true) : ClsI K (He.ga K x) := by
  obtain ⟨h1, h⟩ := He.ba h
  obtain ⟨h2, h⟩ := He.ba h
  obtain ⟨h3, h⟩ := He.ba h
  obtain ⟨h4, h5⟩ := He.ba h
  exact ⟨He.cls_ok h1, He.eqO_ok h2, He.eqO_ok h3, of_decide_eq_true h4, of_decide_eq_true h5⟩
def fXc (x : Str) : Fx := fun K => xcB K (He.ga K x)
def fXi (x : Str) : Fx := fun K => He.eqO (findIn K (.ref (He.ga K x)) "__init__") (some (some (.ref (He.ma K (He.ga K x) "__init__")))) && decide (typeIn K (.ref (He.ma K (He.ga K x) "__init__")) = some (.type "function"))
theorem xi_ok {x : Str} (h : fXi x K = true) : findIn K (.ref (He.ga K x)) "__init__" = some (some (.ref (He.ma K (He.ga K x) "__init__"))) ∧ typeIn K (.ref (He.ma K (He.ga K x) "__init__")) = some (.type "function") := let ⟨a, b⟩ := He.ba h; ⟨He.eqO_ok a, of_decide_eq_true b⟩
def fX0 (x : Str) : Fx := fun K => (He.Fa.exc x).ok K
def fExm (x y : Str) (b : Bool) : Fx := fun K => (He.Fa.exm x y b).ok K
def fKit (t T : String) (b : Bool) : Fx := fun K => decide (kitOne K (.type t) (.type T) = some b)
theorem kit_ok {t T : String} {b : Bool} (h : fKit t T b K = true) : kitOne K (.type t) (.type T) = some b := of_decide_eq_true h
/-- is a t an own x -/
def fKitC (t : String) (x : Str) (b : Bool) : Fx := fun K => decide (kitOne K (.type t) (.ref (He.ga K x)) = some b)
theorem kitC_ok {t : String} {x : Str} {b : Bool} (h : fKitC t x b K = true) : kitOne K (.type t) (.ref (He.ga K x)) = some b := of_decide_eq_true h
/-- is an own y an own x -/
def fKitO (y x : Str) (b : Bool) : Fx := fun K => decide (kitOne K (.ref (He.ga K y)) (.ref (He.ga K x)) = some b)
theorem kitO_ok {y x : Str} {b : Bool} (h : fKitO y x b K = true) : kitOne K (.ref (He.ga K y)) (.ref (He.ga K x)) = some b := of_decide_eq_true h
end
/-! ### words of the derivations -/
section
variable {X : Cx} {E : XK}
theorem pass_own {E₁ : Value → Shared → Prop} (hs : X.stack = X.env :: X.outer) (hf : X.env.frame = some X.env.locals) (hex : X.ex = []) (hx : X.xe = fun e s' => wpAny (model X.prog X.w) X.A (leaving X.env e) (fun _ s'' => L2.CX X.prog X.w X.outer X.H_0 X.s_0 E e s'') E₁ s') : Passes (L2.CX X.prog X.w) X E :=
  passes_call (takes_of hs hf hex hx) fun _ _ _ _ h => h
def rMulU : R2 := fun x y H Q => rI PySem.IntMulOk (fun i j => .int (i * j)) x y H Q ∨ rRep x y H Q
theorem op_mulU : OpR X (binaryOp .Mult) rMulU := OpR.or (opI fun _ _ _ _ _ _ _ hc q => PyProof.Rows.mul_int q hc) op_rep
def rInU (K : PySem.W.Frag) : R2 := fun x y H Q => rInS x y H Q ∨ rIn K false x y H Q
theorem op_inU : OpR X (compareOp .In) (rInU X.K) := op_inS.or op_in_seq
def rNiU (K : PySem.W.Frag) : R2 := fun x y H Q => rNotInS x y H Q ∨ rIn K true x y H Q
theorem op_niU : OpR X (compareOp .NotIn) (rNiU X.K) := op_notInS.or op_notIn_seq
end
end DL

/-! DK2: the head's look, from the names that a text wants alone (own work). -/
namespace DL
open PySem L2 PySem.W
/-- the addresses that are not yet in the mask m, each once -/
def freshA {α : Type} : List Addr → Nat → List Addr → (List Addr → Nat → α) → α
  | [], m, acc, k => k acc m
  | a :: r, m, acc, k => HandSHeadRun.frNat a fun b => if Nat.beq ((m >>> b) % 2) 1 then freshA r m acc k else HandSHeadRun.frNat (m + (1 <<< b)) fun m2 => freshA r m2 (b :: acc) k
/-- what these reach in n steps -/
def walkA (g : Addr → Option Obj) : Nat → Nat → List Addr → List Addr → List Addr
  | 0, _, _, all => all
  | n + 1, m, fr, all => freshA (fr.flatMap fun a => match g a with
      | some o => He.refsD o
      | none => []) m [] fun new m2 => walkA g n m2 new (all ++ new)
def rootsA (g : Addr → Option Obj) (nm : List Str) : List Addr := nm.filterMap fun x => match nsIn (He.frG g [mainGlobals]) mainGlobals x with
  | some (some (.ref a)) => some a
  | _ => none
def asZ (g : Addr → Option Obj) (nm : List Str) (n : Nat) : List Addr := freshA (rootsA g nm) ((1 <<< mainGlobals) ||| (1 <<< builtinsNs)) [] fun rs m => mainGlobals :: cStatics :: walkA g n m rs rs
def obsZG (n : Nat) (nm : List Str) (ex : List Fx) (fn : List Df) (g : Addr → Option Obj) : AlY := lookY ex fn (He.frG g (asZ g nm n))
def hookZ (n : Nat) (nm : List Str) (ex : List Fx) (fn : List Df) : PySem.W.Hook :=
  { α := AlY, obs := fun s => obsZG n nm ex fn s.heap.get?, val := fun _ => dueY fn, says := fun _ h => ∃ K : PySem.W.Frag, K.In h ∧ SaysY ex fn K,
    of := fun _ _ e => ⟨_, He.frG_in, e⟩,
    keeps := fun _ _ _ w k => w.elim fun K z => ⟨K, PySem.W.Frag.In.keeps z.1 k, z.2⟩ }
theorem obsZG_eq {n : Nat} {nm : List Str} {ex : List Fx} {fn : List Df} {g : Addr → Option Obj} {s : Shared} (h : ∀ a, g a = s.heap.get? a) : obsZG n nm ex fn g = (hookZ n nm ex fn).obs s :=
  congrArg (obsZG n nm ex fn) (funext h)
/-! ### facts that the head is asked -/
/-- an empty tuple of the module -/
def IsT0 (K : PySem.W.Frag) (a : Addr) : Prop := ∃ (o : Obj) (n : Nat), K.lookup a = some o ∧ o.cls = .type "tuple" ∧ o.data = .seq #[] n
def isT0 : Option Obj → Bool
  | some ⟨.type T, _, .seq its _, _⟩ => decide (T = "tuple") && its.isEmpty
  | _ => false
def fT0 (p : Str × Option Str) (i : Nat) : Fx := fun K => isT0 (K.lookup (He.dflAt p i K))
def isII : List Value → Bool
  | [.int _ _, .int _ _] => true
  | _ => false
/-- no tuple of the text is a pair of numbers -/
def NoP (K : PySem.W.Frag) : Prop := ∀ (a : Addr) (o : Obj) (its : Array Value) (n : Nat), K.lookup a = some o → o.cls = .type "tuple" → o.data = .seq its n → isII its.toList = false
def noP1 : Obj → Bool
  | ⟨.type T, _, .seq its _, _⟩ => !(decide (T = "tuple") && isII its.toList)
  | _ => true
def fNoP : Fx := fun K => K.all fun p => noP1 p.2
end DL

/-! DK4: facts that the head looks up, made later than DK (own work). -/
namespace DL
open PySem L2 PySem.W
end DL

/-! DK3: the head's run, its facts looked at by parts (own work). -/
namespace DL
open PySem L2 PySem.W
end DL

/-! DK5: the head's run, looked at in several runs that each keep little (own work). -/
namespace DL
open PySem L2 PySem.W HandSHeadRun
/-- what a run of the top says of its own names -/
def SeenEq (r : OpenRow) (q : Program) (M : Nat) (loose : List Str) (w : World) : Prop :=
  ∀ os : OsState, (endF (stepQ (denQ tabQ) r.prog w) M r.prog w os).map (fun s => (looksF r.prog (boot_heap w.params) s.abs, seenQ q loose (importedModules r.prog.main.body) (fun s => xlAt q [] s && recOk r.toRowW.records s) s.abs)) = some (true, openGood q loose)
/-- what a run of the top says of some facts -/
def FactEq (r : OpenRow) (n : Nat) (nm : List Str) (e : List Fx) (f : List Df) (M : Nat) (w : World) : Prop :=
  ∀ os : OsState, (endF (stepQ (denQ tabQ) r.prog w) M r.prog w os).map (fun s => obsZG n nm e f (getT s)) = some (dueY f)
theorem runEq_of {r : OpenRow} {q : Program} {n M : Nat} {nm loose : List Str} {e : List Fx} {f : List Df} {w : World} (h1 : SeenEq r q M loose w) (h2 : FactEq r n nm e f M w) :
    RunEq r q (hookZ n nm e f) (fun s => obsZG n nm e f (getT s)) M loose w := fun os => by
  obtain ⟨s, hs, x⟩ := Option.map_eq_some_iff.mp (h1 os)
  have b := h2 os
  obtain ⟨x1, x2⟩ := Prod.mk.inj x
  rw [hs] at b
  rw [hs]
  exact congrArg some (Prod.ext x1 (Prod.ext x2 (Option.some.inj b)))
end DL

/-! DK6: dicts of the module with text keys, classmethods, in what the head is asked (own work). -/
namespace DL
open PySem L2 PySem.W HandSHeadRun
/-- the dict of the module at a holds texts under texts -/
structure TabS (K : PySem.W.Frag) (w : World) (a : Addr) (kvs : List (Str × Str)) : Prop where
  kd : ∃ es n, KDict K w a es n
  at_ : ∀ p ∈ kvs, ∃ t, nsIn K a p.1 = some (some (.str p.2 t))
  no : ∀ z, (∀ p ∈ kvs, p.1 ≠ z) → nsIn K a z = some none
end DL

namespace DL
open PySem L2 PySem.W
end DL


namespace K02
open PySem L2 DL PySem.W
abbrev top (i : Nat) : Stmt := PySem.Challenge.pw_alsoshown_k02_names_taken_and_refused.main.body.getD i (.Pass ⟨0, 0, 0, 0⟩)
def clsBody : Stmt → List Stmt
  | .ClassDef (body := b) .. => b
  | _ => []
abbrev mth (i j : Nat) : Stmt := (clsBody (top i)).getD j (.Pass ⟨0, 0, 0, 0⟩)
abbrev s_is_name : Stmt := top 15
abbrev s_check_lanes : Stmt := top 24
abbrev s_crossed : Stmt := top 35
abbrev s_read_tree : Stmt := top 34
abbrev s_Machine___init : Stmt := mth 32 0
abbrev s_made_machine : Stmt := top 33
abbrev s_Machine_takes : Stmt := mth 32 1
abbrev s_Machine_is_behind : Stmt := mth 32 3
abbrev s_Machine_after : Stmt := mth 32 2
abbrev s_Machine_started : Stmt := mth 32 5
abbrev s_Machine_is_done : Stmt := mth 32 6
abbrev s_all_names : Stmt := top 37
abbrev s_least_parting : Stmt := top 38
abbrev s_Pattern___init : Stmt := mth 57 0
abbrev s_any_of : Stmt := top 58
abbrev s_none_of : Stmt := top 59
abbrev s_word_pattern : Stmt := top 61
abbrev s_walk_of : Stmt := top 60
abbrev s_as_pattern : Stmt := top 62
abbrev s_machine_of : Stmt := top 63
abbrev s_within : Stmt := top 64
abbrev s_parting : Stmt := top 65
abbrev s_Round___init : Stmt := mth 22 0
abbrev s_Net___init : Stmt := mth 28 0
abbrev s_Net_posts : Stmt := mth 28 1
abbrev s_Net_lanes : Stmt := mth 28 2
abbrev s_Net_post : Stmt := mth 28 3
abbrev s_Net_lane : Stmt := mth 28 4
abbrev s_law_cell : Stmt := top 67
abbrev s_law_pool : Stmt := top 68
abbrev s_law_take : Stmt := top 69
abbrev s_law_names : Stmt := top 70
abbrev s_law_spoiled : Stmt := top 71
abbrev s_law_pattern : Stmt := top 73
abbrev s_law_refused : Stmt := top 72
abbrev s_law_added : Stmt := top 74
abbrev s_law_is_name : Stmt := top 75
abbrev s_law : Stmt := top 76
abbrev s_BadName___init : Stmt := mth 3 0
abbrev s_NameTaken___init : Stmt := mth 4 0
abbrev s_NoPost___init : Stmt := mth 5 0
theorem sc_is_name : FnScope ["word", "sign"] ["word"] (defScope s_is_name) := ⟨rfl, rfl, rfl, by decide +kernel, rfl, by decide +kernel, by decide +kernel⟩
theorem sc_check_lanes : FnScope ["lanes", "lane"] ["lanes"] (defScope s_check_lanes) := ⟨rfl, rfl, rfl, by decide +kernel, rfl, by decide +kernel, by decide +kernel⟩
theorem sc_crossed : FnScope ["one", "two", "first", "second"] ["one", "two"] (defScope s_crossed) := ⟨rfl, rfl, rfl, by decide +kernel, rfl, by decide +kernel, by decide +kernel⟩
theorem sc_read_tree : FnScope ["tree", "start", "one", "two", "firsts", "lasts"] ["tree", "start"] (defScope s_read_tree) := ⟨rfl, rfl, rfl, by decide +kernel, rfl, by decide +kernel, by decide +kernel⟩
theorem sc_Machine___init : FnScope ["self", "atoms", "firsts", "lasts", "pairs", "is_optional"] ["self", "atoms", "firsts", "lasts", "pairs", "is_optional"] (defScope s_Machine___init) := ⟨rfl, rfl, rfl, by decide +kernel, rfl, by decide +kernel, by decide +kernel⟩
theorem sc_made_machine : FnScope ["tree", "atoms", "firsts", "lasts", "pairs", "is_optional", "pair"] ["tree"] (defScope s_made_machine) := ⟨rfl, rfl, rfl, by decide +kernel, rfl, by decide +kernel, by decide +kernel⟩
theorem sc_Machine_takes : FnScope ["self", "atom", "lane", "is_any", "names"] ["self", "atom", "lane"] (defScope s_Machine_takes) := ⟨rfl, rfl, rfl, by decide +kernel, rfl, by decide +kernel, by decide +kernel⟩
theorem sc_Machine_is_behind : FnScope ["self", "places", "atom", "place"] ["self", "places", "atom"] (defScope s_Machine_is_behind) := ⟨rfl, rfl, rfl, by decide +kernel, rfl, by decide +kernel, by decide +kernel⟩
theorem sc_Machine_after : FnScope ["self", "places", "lane", "size", "atom"] ["self", "places", "lane"] (defScope s_Machine_after) := ⟨rfl, rfl, rfl, by decide +kernel, rfl, by decide +kernel, by decide +kernel⟩
theorem sc_Machine_started : FnScope ["self", "lane", "atom"] ["self", "lane"] (defScope s_Machine_started) := ⟨rfl, rfl, rfl, by decide +kernel, rfl, by decide +kernel, by decide +kernel⟩
theorem sc_Machine_is_done : FnScope ["self", "places", "place"] ["self", "places"] (defScope s_Machine_is_done) := ⟨rfl, rfl, rfl, by decide +kernel, rfl, by decide +kernel, by decide +kernel⟩
theorem sc_all_names : FnScope ["one", "two", "names", "is_any", "known", "name", "number"] ["one", "two"] (defScope s_all_names) := ⟨rfl, rfl, rfl, by decide +kernel, rfl, by decide +kernel, by decide +kernel⟩
theorem sc_least_parting : FnScope ["one", "two", "is_one_sided", "names", "name", "words", "places", "known", "at", "pair", "done"] ["one", "two", "is_one_sided"] (defScope s_least_parting) := ⟨rfl, rfl, rfl, by decide +kernel, rfl, by decide +kernel, by decide +kernel⟩
theorem sc_Pattern___init : FnScope ["self", "tree"] ["self", "tree"] (defScope s_Pattern___init) := ⟨rfl, rfl, rfl, by decide +kernel, rfl, by decide +kernel, by decide +kernel⟩
theorem sc_any_of : FnScope ["names"] ["names"] (defScope s_any_of) := ⟨rfl, rfl, rfl, by decide +kernel, rfl, by decide +kernel, by decide +kernel⟩
theorem sc_none_of : FnScope ["names"] ["names"] (defScope s_none_of) := ⟨rfl, rfl, rfl, by decide +kernel, rfl, by decide +kernel, by decide +kernel⟩
theorem sc_word_pattern : FnScope ["names", "tree", "name"] ["names"] (defScope s_word_pattern) := ⟨rfl, rfl, rfl, by decide +kernel, rfl, by decide +kernel, by decide +kernel⟩
theorem sc_walk_of : FnScope ["names"] ["names"] (defScope s_walk_of) := ⟨rfl, rfl, rfl, by decide +kernel, rfl, by decide +kernel, by decide +kernel⟩
theorem sc_as_pattern : FnScope ["thing"] ["thing"] (defScope s_as_pattern) := ⟨rfl, rfl, rfl, by decide +kernel, rfl, by decide +kernel, by decide +kernel⟩
theorem sc_machine_of : FnScope ["thing"] ["thing"] (defScope s_machine_of) := ⟨rfl, rfl, rfl, by decide +kernel, rfl, by decide +kernel, by decide +kernel⟩
theorem sc_within : FnScope ["one", "two", "first"] ["one", "two"] (defScope s_within) := ⟨rfl, rfl, rfl, by decide +kernel, rfl, by decide +kernel, by decide +kernel⟩
theorem sc_parting : FnScope ["one", "two", "first"] ["one", "two"] (defScope s_parting) := ⟨rfl, rfl, rfl, by decide +kernel, rfl, by decide +kernel, by decide +kernel⟩
theorem sc_Round___init : FnScope ["self", "lanes"] ["self", "lanes"] (defScope s_Round___init) := ⟨rfl, rfl, rfl, by decide +kernel, rfl, by decide +kernel, by decide +kernel⟩
theorem sc_Net___init : FnScope ["self", "order", "ends_by_lane", "known", "lane"] ["self", "order", "ends_by_lane"] (defScope s_Net___init) := ⟨rfl, rfl, rfl, by decide +kernel, rfl, by decide +kernel, by decide +kernel⟩
theorem sc_Net_posts : FnScope ["self"] ["self"] (defScope s_Net_posts) := ⟨rfl, rfl, rfl, by decide +kernel, rfl, by decide +kernel, by decide +kernel⟩
theorem sc_Net_lanes : FnScope ["self", "lane"] ["self"] (defScope s_Net_lanes) := ⟨rfl, rfl, rfl, by decide +kernel, rfl, by decide +kernel, by decide +kernel⟩
theorem sc_Net_post : FnScope ["self", "name"] ["self", "name"] (defScope s_Net_post) := ⟨rfl, rfl, rfl, by decide +kernel, rfl, by decide +kernel, by decide +kernel⟩
theorem sc_Net_lane : FnScope ["self", "name", "start", "end", "place"] ["self", "name", "start", "end"] (defScope s_Net_lane) := ⟨rfl, rfl, rfl, by decide +kernel, rfl, by decide +kernel, by decide +kernel⟩
theorem sc_law_cell : FnScope ["_law_script", "_law_k"] ["_law_script", "_law_k"] (defScope s_law_cell) := ⟨rfl, rfl, rfl, by decide +kernel, rfl, by decide +kernel, by decide +kernel⟩
theorem sc_law_pool : FnScope ["_law_cell_here", "_law_folded"] ["_law_cell_here"] (defScope s_law_pool) := ⟨rfl, rfl, rfl, by decide +kernel, rfl, by decide +kernel, by decide +kernel⟩
theorem sc_law_take : FnScope ["_law_pool_here", "_law_many", "_law_draw", "_law_mixed"] ["_law_pool_here", "_law_many"] (defScope s_law_take) := ⟨rfl, rfl, rfl, by decide +kernel, rfl, by decide +kernel, by decide +kernel⟩
theorem sc_law_names : FnScope ["_law_pool_here", "_law_many", "_law_letters", "_law_signs", "_law_word", "_law_k", "_law_kind", "_law_start", "_law_stem", "_law_place", "_law_told", "_law_names_here", "_law_sign"] ["_law_pool_here", "_law_many"] (defScope s_law_names) := ⟨rfl, rfl, rfl, by decide +kernel, rfl, by decide +kernel, by decide +kernel⟩
theorem sc_law_spoiled : FnScope ["_law_pool_here", "_law_word", "_law_kind", "_law_at"] ["_law_pool_here", "_law_word"] (defScope s_law_spoiled) := ⟨rfl, rfl, rfl, by decide +kernel, rfl, by decide +kernel, by decide +kernel⟩
theorem sc_law_pattern : FnScope ["_law_made_by", "_law_words"] ["_law_made_by", "_law_words"] (defScope s_law_pattern) := ⟨rfl, rfl, rfl, by decide +kernel, rfl, by decide +kernel, by decide +kernel⟩
theorem sc_law_refused : FnScope ["_law_words", "_law_kind", "e"] ["_law_words", "_law_kind"] (defScope s_law_refused) := ⟨rfl, rfl, rfl, by decide +kernel, rfl, by decide +kernel, by decide +kernel⟩
theorem sc_law_added : FnScope ["_law_word", "_law_net", "_law_found", "e", "_law_other"] ["_law_word"] (defScope s_law_added) := ⟨rfl, rfl, rfl, by decide +kernel, rfl, by decide +kernel, by decide +kernel⟩
theorem sc_law_is_name : FnScope ["_law_word", "_law_letters", "_law_sign"] ["_law_word"] (defScope s_law_is_name) := ⟨rfl, rfl, rfl, by decide +kernel, rfl, by decide +kernel, by decide +kernel⟩
theorem sc_law : FnScope ["_law_script", "_law_k", "_law_pool_here", "_law_words", "_law_word", "_law_bad", "_law_due", "_law_kind", "_law_wished"] ["_law_script"] (defScope s_law) := ⟨rfl, rfl, rfl, by decide +kernel, rfl, by decide +kernel, by decide +kernel⟩
theorem sc_BadName___init : FnScope ["self", "name"] ["self", "name"] (defScope s_BadName___init) := ⟨rfl, rfl, rfl, by decide +kernel, rfl, by decide +kernel, by decide +kernel⟩
theorem sc_NameTaken___init : FnScope ["self", "name"] ["self", "name"] (defScope s_NameTaken___init) := ⟨rfl, rfl, rfl, by decide +kernel, rfl, by decide +kernel, by decide +kernel⟩
theorem sc_NoPost___init : FnScope ["self", "name"] ["self", "name"] (defScope s_NoPost___init) := ⟨rfl, rfl, rfl, by decide +kernel, rfl, by decide +kernel, by decide +kernel⟩
/-- what the top leaves -/
def exs0 : List Fx := [fStr "LETTERS" "abcdefghijklmnopqrstuvwxyz", fFree "len", fInt "LONGEST" 8, fFree "isinstance", fFree "str", fFree "all", fStr "DIGITS" "0123456789", fX0 "EmptyWalk", fGlo "EmptyWalk", fGlo "is_name", fGlo "BadName", fGlo "read_tree", fGlo "crossed", fMkr "Machine", fGlo "Machine", fFree "any", fFree "tuple", fCls "Machine", fMeth "Machine" "is_behind", fMeth "Machine" "takes", fFree "range", fGlo "all_names", fMeth "Machine" "started", fMeth "Machine" "is_done", fMeth "Machine" "after", fGlo "check_lanes", fMkr "Pattern", fGlo "Pattern", fGlo "word_pattern", fGlo "made_machine"]
def exs1 : List Fx := [fGlo "as_pattern", fGlo "machine_of", fGlo "least_parting", fFree "list", fT0 ("Net", some "__init__") 0, fGlo "NameTaken", fGlo "NoPost", fFree "int", fGlo "_law_take", fGlo "walk_of", fGlo "none_of", fGlo "any_of", fXc "BadName", fNoat "BadName" "name", fMkr "Round", fGlo "Round", fGlo "_law_pattern", fGlo "within", fGlo "parting", fMkr "Net", fGlo "Net", fCls "Net", fMeth "Net" "post", fProp "Net" "posts", fMeth "Net" "lane", fProp "Net" "lanes", fGlo "_law_pool", fGlo "_law_cell", fGlo "_law_names", fGlo "_law_spoiled"]
def exs2 : List Fx := [fGlo "_law_is_name", fGlo "_law_refused", fGlo "_law_added", fXi "BadName", fXc "NameTaken", fXi "NameTaken", fNoat "NameTaken" "name", fXc "NoPost", fXi "NoPost", fNoat "NoPost" "name", fGlo "law", fKit "NoneType" "str" false, fKit "bool" "str" false, fKit "int" "str" false, fKit "list" "str" false, fKit "tuple" "str" false, fKit "str" "str" true, fNoat "Machine" "atoms", fNoat "Machine" "firsts", fNoat "Machine" "lasts", fNoat "Machine" "pairs", fNoat "Machine" "is_optional", fNoP, fCls "Pattern", fNoat "Pattern" "tree", fClsI "Pattern", fKitO "Pattern" "Pattern" true, fKitC "list" "Pattern" false, fKitC "tuple" "Pattern" false, fCls "Round"]
def exs3 : List Fx := [fNoat "Round" "line", fNoat "Net" "order", fNoat "Net" "ends_by_lane", fExm "BadName" "BadName" true, fExm "EmptyWalk" "BadName" false, fExm "EmptyWalk" "EmptyWalk" true]
abbrev exs : List Fx := exs0 ++ exs1 ++ exs2 ++ exs3
def dfs0 : List Df := [⟨fun K => (He.ga K "is_name"), "is_name", "is_name", defArgs s_is_name, defBody s_is_name, defScope s_is_name, fun K => []⟩, ⟨fun K => (He.ga K "check_lanes"), "check_lanes", "check_lanes", defArgs s_check_lanes, defBody s_check_lanes, defScope s_check_lanes, fun K => []⟩, ⟨fun K => (He.ga K "crossed"), "crossed", "crossed", defArgs s_crossed, defBody s_crossed, defScope s_crossed, fun K => []⟩, ⟨fun K => (He.ga K "read_tree"), "read_tree", "read_tree", defArgs s_read_tree, defBody s_read_tree, defScope s_read_tree, fun K => []⟩, ⟨fun K => (He.ma K (He.ga K "Machine") "__init__"), "__init__", "Machine.__init__", defArgs s_Machine___init, defBody s_Machine___init, defScope s_Machine___init, fun K => []⟩, ⟨fun K => (He.ga K "made_machine"), "made_machine", "made_machine", defArgs s_made_machine, defBody s_made_machine, defScope s_made_machine, fun K => []⟩, ⟨fun K => (He.ma K (He.ga K "Machine") "takes"), "takes", "Machine.takes", defArgs s_Machine_takes, defBody s_Machine_takes, defScope s_Machine_takes, fun K => []⟩, ⟨fun K => (He.ma K (He.ga K "Machine") "is_behind"), "is_behind", "Machine.is_behind", defArgs s_Machine_is_behind, defBody s_Machine_is_behind, defScope s_Machine_is_behind, fun K => []⟩, ⟨fun K => (He.ma K (He.ga K "Machine") "after"), "after", "Machine.after", defArgs s_Machine_after, defBody s_Machine_after, defScope s_Machine_after, fun K => []⟩, ⟨fun K => (He.ma K (He.ga K "Machine") "started"), "started", "Machine.started", defArgs s_Machine_started, defBody s_Machine_started, defScope s_Machine_started, fun K => []⟩, ⟨fun K => (He.ma K (He.ga K "Machine") "is_done"), "is_done", "Machine.is_done", defArgs s_Machine_is_done, defBody s_Machine_is_done, defScope s_Machine_is_done, fun K => []⟩, ⟨fun K => (He.ga K "all_names"), "all_names", "all_names", defArgs s_all_names, defBody s_all_names, defScope s_all_names, fun K => []⟩, ⟨fun K => (He.ga K "least_parting"), "least_parting", "least_parting", defArgs s_least_parting, defBody s_least_parting, defScope s_least_parting, fun K => []⟩, ⟨fun K => (He.ma K (He.ga K "Pattern") "__init__"), "__init__", "Pattern.__init__", defArgs s_Pattern___init, defBody s_Pattern___init, defScope s_Pattern___init, fun K => []⟩, ⟨fun K => (He.ga K "any_of"), "any_of", "any_of", defArgs s_any_of, defBody s_any_of, defScope s_any_of, fun K => []⟩, ⟨fun K => (He.ga K "none_of"), "none_of", "none_of", defArgs s_none_of, defBody s_none_of, defScope s_none_of, fun K => []⟩, ⟨fun K => (He.ga K "word_pattern"), "word_pattern", "word_pattern", defArgs s_word_pattern, defBody s_word_pattern, defScope s_word_pattern, fun K => []⟩, ⟨fun K => (He.ga K "walk_of"), "walk_of", "walk_of", defArgs s_walk_of, defBody s_walk_of, defScope s_walk_of, fun K => []⟩, ⟨fun K => (He.ga K "as_pattern"), "as_pattern", "as_pattern", defArgs s_as_pattern, defBody s_as_pattern, defScope s_as_pattern, fun K => []⟩, ⟨fun K => (He.ga K "machine_of"), "machine_of", "machine_of", defArgs s_machine_of, defBody s_machine_of, defScope s_machine_of, fun K => []⟩, ⟨fun K => (He.ga K "within"), "within", "within", defArgs s_within, defBody s_within, defScope s_within, fun K => []⟩, ⟨fun K => (He.ga K "parting"), "parting", "parting", defArgs s_parting, defBody s_parting, defScope s_parting, fun K => []⟩, ⟨fun K => (He.ma K (He.ga K "Round") "__init__"), "__init__", "Round.__init__", defArgs s_Round___init, defBody s_Round___init, defScope s_Round___init, fun K => []⟩, ⟨fun K => (He.ma K (He.ga K "Net") "__init__"), "__init__", "Net.__init__", defArgs s_Net___init, defBody s_Net___init, defScope s_Net___init, fun K => [.ref (He.dflAt ("Net", some "__init__") 0 K), .non]⟩, ⟨fun K => (pga K (He.ga K "Net") "posts"), "posts", "Net.posts", defArgs s_Net_posts, defBody s_Net_posts, defScope s_Net_posts, fun K => []⟩, ⟨fun K => (pga K (He.ga K "Net") "lanes"), "lanes", "Net.lanes", defArgs s_Net_lanes, defBody s_Net_lanes, defScope s_Net_lanes, fun K => []⟩, ⟨fun K => (He.ma K (He.ga K "Net") "post"), "post", "Net.post", defArgs s_Net_post, defBody s_Net_post, defScope s_Net_post, fun K => []⟩, ⟨fun K => (He.ma K (He.ga K "Net") "lane"), "lane", "Net.lane", defArgs s_Net_lane, defBody s_Net_lane, defScope s_Net_lane, fun K => []⟩, ⟨fun K => (He.ga K "_law_cell"), "_law_cell", "_law_cell", defArgs s_law_cell, defBody s_law_cell, defScope s_law_cell, fun K => []⟩, ⟨fun K => (He.ga K "_law_pool"), "_law_pool", "_law_pool", defArgs s_law_pool, defBody s_law_pool, defScope s_law_pool, fun K => []⟩]
def dfs1 : List Df := [⟨fun K => (He.ga K "_law_take"), "_law_take", "_law_take", defArgs s_law_take, defBody s_law_take, defScope s_law_take, fun K => []⟩, ⟨fun K => (He.ga K "_law_names"), "_law_names", "_law_names", defArgs s_law_names, defBody s_law_names, defScope s_law_names, fun K => []⟩, ⟨fun K => (He.ga K "_law_spoiled"), "_law_spoiled", "_law_spoiled", defArgs s_law_spoiled, defBody s_law_spoiled, defScope s_law_spoiled, fun K => []⟩, ⟨fun K => (He.ga K "_law_pattern"), "_law_pattern", "_law_pattern", defArgs s_law_pattern, defBody s_law_pattern, defScope s_law_pattern, fun K => []⟩, ⟨fun K => (He.ga K "_law_refused"), "_law_refused", "_law_refused", defArgs s_law_refused, defBody s_law_refused, defScope s_law_refused, fun K => []⟩, ⟨fun K => (He.ga K "_law_added"), "_law_added", "_law_added", defArgs s_law_added, defBody s_law_added, defScope s_law_added, fun K => []⟩, ⟨fun K => (He.ga K "_law_is_name"), "_law_is_name", "_law_is_name", defArgs s_law_is_name, defBody s_law_is_name, defScope s_law_is_name, fun K => []⟩, ⟨fun K => (He.ga K "law"), "law", "law", defArgs s_law, defBody s_law, defScope s_law, fun K => []⟩, ⟨fun K => (He.ma K (He.ga K "BadName") "__init__"), "__init__", "BadName.__init__", defArgs s_BadName___init, defBody s_BadName___init, defScope s_BadName___init, fun K => []⟩, ⟨fun K => (He.ma K (He.ga K "NameTaken") "__init__"), "__init__", "NameTaken.__init__", defArgs s_NameTaken___init, defBody s_NameTaken___init, defScope s_NameTaken___init, fun K => []⟩, ⟨fun K => (He.ma K (He.ga K "NoPost") "__init__"), "__init__", "NoPost.__init__", defArgs s_NoPost___init, defBody s_NoPost___init, defScope s_NoPost___init, fun K => []⟩]
abbrev dfs : List Df := dfs0 ++ dfs1
def names0 : List Str := ["_wall", "ShowError", "BadName", "NameTaken", "NoPost", "NoLane", "Clash", "EmptyWalk", "BadText", "BadNumber", "LETTERS", "DIGITS", "LONGEST", "is_name", "is_whole", "is_count", "first_missing", "are_strings", "are_names", "Round", "in_order", "check_lanes", "begins_at", "is_turned", "Net", "made_of_both", "is_within", "Machine", "made_machine", "read_tree"]
def names1 : List Str := ["crossed", "accepts", "all_names", "least_parting", "ENDS", "sign_at", "read_pattern", "behind_row", "read_row", "read_item", "read_name", "read_names", "read_group", "expect", "joined", "opposite", "tree_names", "text_of", "atom_text", "Pattern", "any_of", "none_of", "walk_of", "word_pattern", "as_pattern", "machine_of", "within", "parting", "_law_cell", "_law_pool"]
def names2 : List Str := ["_law_take", "_law_names", "_law_spoiled", "_law_refused", "_law_pattern", "_law_added", "_law_is_name"]
abbrev names : List Str := names0 ++ names1 ++ names2
abbrev R : PySem.W.OpenRow := PySem.W.OpenLaw.row PySem.Challenge.rw_alsoshown_k02_names_taken_and_refused
abbrev qv : Program := view R.prog [76]
def rts0 : List Str := ["is_name", "check_lanes", "crossed", "read_tree", "Machine", "made_machine", "all_names", "least_parting", "Pattern", "any_of", "none_of", "word_pattern", "walk_of", "as_pattern", "machine_of", "within", "parting", "Round", "Net", "_law_cell", "_law_pool", "_law_take", "_law_names", "_law_spoiled", "_law_pattern", "_law_refused", "_law_added", "_law_is_name", "law", "BadName"]
def rts1 : List Str := ["NameTaken", "NoPost", "LETTERS", "LONGEST", "DIGITS", "EmptyWalk"]
abbrev rts : List Str := rts0 ++ rts1
abbrev hk : PySem.W.Hook := hookZ 5 rts exs dfs
def ob (s : PySem.W.SharedT) : AlY := obsZG 5 rts exs dfs (HandSHeadRun.getT s)
theorem ob_eq (s : PySem.W.SharedT) : ob s = hk.obs s.abs := obsZG_eq (HandSHeadRun.getT_eq s)
theorem seen0 (w : World) : SeenEq R qv 14000 names (w.withFollow "special-get-raises" false) := by
  intro os
  kernel_rfl
theorem fact0a (w : World) : FactEq R 5 rts (exs0 ++ exs1 ++ exs2 ++ exs3) (dfs0 ++ dfs1) 14000 (w.withFollow "special-get-raises" false) := by
  intro os
  kernel_rfl
theorem run0 (w : World) : HandSHeadRun.RunEq R qv (hookZ 5 rts (exs0 ++ exs1 ++ exs2 ++ exs3) (dfs0 ++ dfs1)) (fun s => obsZG 5 rts (exs0 ++ exs1 ++ exs2 ++ exs3) (dfs0 ++ dfs1) (HandSHeadRun.getT s)) 14000 names (w.withFollow "special-get-raises" false) := by
  have h := fact0a w
  try simp only [List.append_assoc, List.append_nil, List.nil_append] at h
  refine runEq_of (seen0 w) ?_
  try simp only [List.append_assoc, List.append_nil, List.nil_append]
  exact h
theorem seen1 (w : World) : SeenEq R qv 14000 names (w.withFollow "special-get-raises" true) := by
  intro os
  kernel_rfl
theorem fact1a (w : World) : FactEq R 5 rts (exs0 ++ exs1 ++ exs2 ++ exs3) (dfs0 ++ dfs1) 14000 (w.withFollow "special-get-raises" true) := by
  intro os
  kernel_rfl
theorem run1 (w : World) : HandSHeadRun.RunEq R qv (hookZ 5 rts (exs0 ++ exs1 ++ exs2 ++ exs3) (dfs0 ++ dfs1)) (fun s => obsZG 5 rts (exs0 ++ exs1 ++ exs2 ++ exs3) (dfs0 ++ dfs1) (HandSHeadRun.getT s)) 14000 names (w.withFollow "special-get-raises" true) := by
  have h := fact1a w
  try simp only [List.append_assoc, List.append_nil, List.nil_append] at h
  refine runEq_of (seen1 w) ?_
  try simp only [List.append_assoc, List.append_nil, List.nil_append]
  exact h
theorem run (w : World) : HandSHeadRun.RunEq R qv hk ob 14000 names w := PySem.W.byRow2 "special-get-raises" (P := fun w => HandSHeadRun.RunEq R qv hk ob 14000 names w) run0 run1 w
end K02

/-! DA: a logic of data over the readings: frozen data, views, cells (own work). -/
namespace DL
open PySem L2

/-- data -/
inductive D where
  | non | bl (b : Bool) | int (i : Int) | str (s : Str)
  | tup (xs : List D) | lst (xs : List D) | dic (kvs : List (Key × D)) | dit (kvs : List (List Key × D))
  | ins (C : Addr) (fs : List (Str × D)) | ty (n : String) | adr (a : Addr)
  | din (w : World) (kvs : List (NestedKey × D))

/-! ### dicts whose keys are tuples of any depth -/
/-- an entry as it lies in the dict's object -/
def entN (w : World) (q : NestedKey × Addr × Value) : DictEntry := ⟨q.1.hash w, .ref q.2.1, q.2.2⟩
/-- the dict at a: its keys (each at its address), its values -/
def DnO (w : World) (a : Addr) (xs : List (NestedKey × Addr × V)) : HO := .ext fun h => xs.length ≤ sizeLine ∧ (a == sysModules) = false ∧ ∃ qs : List (NestedKey × Addr × Value),
  Paired (fun p q => p.1 = q.1 ∧ p.2.1 = q.2.1 ∧ RelV p.2.2 q.2.2) xs qs ∧ ∃ o es ep, h.get? a = some o ∧ o.ExactDict ∧ o.data = .dict es ep ∧ es.toList = qs.map (entN w) ∧ (qs.map (·.1)).Nodup
mutual
/-- a thing that is the key -/
def RkN (K : PySem.W.Frag) (F : Hp) : NestedKey → V → Prop
  | .none, v => v = .non
  | .num i, v => v = .int i
  | .text s, v => v = .str s
  | .tup ks, v => ∃ a xs, v = .ref a ∧ SqT K F a xs ∧ RkL K F ks xs
def RkL (K : PySem.W.Frag) (F : Hp) : List NestedKey → List V → Prop
  | [], xs => xs = []
  | k :: ks, xs => ∃ x ys, xs = x :: ys ∧ RkN K F k x ∧ RkL K F ks ys
end

mutual
def Rp (K : PySem.W.Frag) (F : Hp) : D → V → Prop
  | .non, v => v = .non
  | .bl b, v => v = .bl b
  | .int i, v => v = .int i
  | .str s, v => v = .str s
  | .ty n, v => v = .ty n
  | .adr a, v => v = .ref a
  | .tup ds, v => ∃ a xs, v = .ref a ∧ SqT K F a xs ∧ RpL K F ds xs
  | .lst ds, v => ∃ a xs, v = .ref a ∧ Rd F a (.lst xs) ∧ RpL K F ds xs
  | .dic ds, v => ∃ a xs, v = .ref a ∧ Rd F a (.dK xs) ∧ RpK K F ds xs
  | .dit ds, v => ∃ a xs, v = .ref a ∧ Rd F a (.dT xs) ∧ RpT K F ds xs
  | .ins C ds, v => ∃ a dx xs, v = .ref a ∧ Rd F a (.ins C dx xs) ∧ RpF K F ds xs
  | .din w ds, v => ∃ a xs, v = .ref a ∧ Rd F a (DnO w a xs) ∧ RpN K F ds xs
def RpN (K : PySem.W.Frag) (F : Hp) : List (NestedKey × D) → List (NestedKey × Addr × V) → Prop
  | [], xs => xs = []
  | (k, d) :: ds, xs => ∃ b x ys, xs = (k, b, x) :: ys ∧ (RkN K F k (.ref b) ∧ k.depth ≤ 8) ∧ Rp K F d x ∧ RpN K F ds ys
def RpL (K : PySem.W.Frag) (F : Hp) : List D → List V → Prop
  | [], xs => xs = []
  | d :: ds, xs => ∃ x ys, xs = x :: ys ∧ Rp K F d x ∧ RpL K F ds ys
def RpK (K : PySem.W.Frag) (F : Hp) : List (Key × D) → List (Key × V) → Prop
  | [], xs => xs = []
  | (k, d) :: ds, xs => ∃ x ys, xs = (k, x) :: ys ∧ Rp K F d x ∧ RpK K F ds ys
def RpT (K : PySem.W.Frag) (F : Hp) : List (List Key × D) → List (List Key × V) → Prop
  | [], xs => xs = []
  | (k, d) :: ds, xs => ∃ x ys, xs = (k, x) :: ys ∧ Rp K F d x ∧ RpT K F ds ys
def RpF (K : PySem.W.Frag) (F : Hp) : List (Str × D) → List (Str × V) → Prop
  | [], xs => xs = []
  | (k, d) :: ds, xs => ∃ x ys, xs = (k, x) :: ys ∧ Rp K F d x ∧ RpF K F ds ys
end


def isfz : HO → Bool
  | .frz _ _ => true
  | _ => false
/-- nothing of F is locked -/
def Nz (F : Hp) : Prop := ∀ a u, F a = some u → isfz u = false
/-- what a loop may lock -/
def lk : HO → Bool
  | .dK _ => true
  | .dT _ => true
  | .lst _ => true
  | .ext _ => true
  | _ => false
/-- all that F says may be read in H -/
def Exz (F H : Hp) : Prop := ∀ a u, F a = some u → H a = some u ∨ (lk u = true ∧ ∃ o, H a = some (.frz o u))
theorem exz_rd {F H : Hp} (e : Exz F H) {a : Addr} {u : HO} (h : F a = some u) : Rd H a u := by
  rcases e a u h with q | ⟨_, o, q⟩
  · exact .inl q
  · exact .inr ⟨o, q⟩
/-- what is never locked stands as it is -/
theorem Exz.at {F H : Hp} (e : Exz F H) {a : Addr} {u : HO} (h : F a = some u) (k : lk u = false) : H a = some u := by
  rcases e a u h with q | ⟨k2, _⟩
  · exact q
  · rw [k] at k2
    cases k2
/-- all of B stands in H as it is -/
def Sub (B H : Hp) : Prop := ∀ a o, B a = some o → H a = some o
theorem Sub.refl (H : Hp) : Sub H H := fun _ _ h => h
theorem Sub.trans {F G H : Hp} (a : Sub F G) (b : Sub G H) : Sub F H := fun x u h => b x u (a x u h)
theorem Sub.exz {B H : Hp} (e : Sub B H) : Exz B H := fun a u h => .inl (e _ _ h)
theorem Sub.new {H : Hp} {p : Addr} {o : HO} (h : H p = none) : Sub H (upd H p o) := fun a u e => by
  rw [upd_ne (ne_of_none e h)]
  exact e
theorem Sub.free {F H : Hp} (e : Sub F H) {a : Addr} (h : H a = none) : F a = none := by
  cases q : F a with
  | none => rfl
  | some o =>
    rw [e a o q] at h
    cases h
theorem rd_ne {H : Hp} {a : Addr} {u : HO} (h : Rd H a u) : H a ≠ none := by
  rcases h with h | ⟨o, h⟩ <;> rw [h] <;> exact fun q => by cases q
theorem Exz.free {F H : Hp} (e : Exz F H) {a : Addr} (h : H a = none) : F a = none := by
  cases q : F a with
  | none => rfl
  | some o => exact absurd h (rd_ne (exz_rd e q))
theorem Exz.rd {F H : Hp} (e : Exz F H) (n : Nz F) {a : Addr} {u : HO} (h : Rd F a u) : Rd H a u := by
  rcases h with h | ⟨o, h⟩
  · exact exz_rd e h
  · have := n a _ h
    cases this
theorem Exz.sub {F G H : Hp} (a : Exz F G) (b : Sub G H) : Exz F H := fun x u h => by
  rcases a x u h with q | ⟨k, o, q⟩
  · exact .inl (b _ _ q)
  · exact .inr ⟨k, o, b _ _ q⟩
theorem sqT_mono {K : PySem.W.Frag} {F H : Hp} {a : Addr} {xs : List V} (e : Exz F H) (n : Nz F) (h : SqT K F a xs) : SqT K H a xs := by
  rcases h with h | h
  · exact .inl (e.rd n h)
  · exact .inr h
section
variable {K : PySem.W.Frag} {F G : Hp}
mutual
theorem RkN.mono (e : Exz F G) (n : Nz F) : ∀ (k : NestedKey) (v : V), RkN K F k v → RkN K G k v
  | .none, _, h => h
  | .num _, _, h => h
  | .text _, _, h => h
  | .tup ks, v, h => by
    obtain ⟨a, xs, e1, h1, h2⟩ := h
    exact ⟨a, xs, e1, sqT_mono e n h1, RkL.mono e n ks xs h2⟩
theorem RkL.mono (e : Exz F G) (n : Nz F) : ∀ (ks : List NestedKey) (xs : List V), RkL K F ks xs → RkL K G ks xs
  | [], _, h => h
  | k :: ks, xs, h => by
    obtain ⟨x, ys, e1, h1, h2⟩ := h
    exact ⟨x, ys, e1, RkN.mono e n k x h1, RkL.mono e n ks ys h2⟩
end
mutual
theorem Rp.mono (e : Exz F G) (n : Nz F) : ∀ (d : D) (v : V), Rp K F d v → Rp K G d v
  | .non, _, h => h
  | .bl _, _, h => h
  | .int _, _, h => h
  | .str _, _, h => h
  | .ty _, _, h => h
  | .adr _, _, h => h
  | .tup ds, v, h => by
    obtain ⟨a, xs, e1, h1, h2⟩ := h
    exact ⟨a, xs, e1, sqT_mono e n h1, RpL.mono e n ds xs h2⟩
  | .lst ds, v, h => by
    obtain ⟨a, xs, e1, h1, h2⟩ := h
    exact ⟨a, xs, e1, e.rd n h1, RpL.mono e n ds xs h2⟩
  | .dic ds, v, h => by
    obtain ⟨a, xs, e1, h1, h2⟩ := h
    exact ⟨a, xs, e1, e.rd n h1, RpK.mono e n ds xs h2⟩
  | .dit ds, v, h => by
    obtain ⟨a, xs, e1, h1, h2⟩ := h
    exact ⟨a, xs, e1, e.rd n h1, RpT.mono e n ds xs h2⟩
  | .ins C ds, v, h => by
    obtain ⟨a, dx, xs, e1, h1, h2⟩ := h
    exact ⟨a, dx, xs, e1, e.rd n h1, RpF.mono e n ds xs h2⟩
  | .din w ds, v, h => by
    obtain ⟨a, xs, e1, h1, h2⟩ := h
    exact ⟨a, xs, e1, e.rd n h1, RpN.mono e n ds xs h2⟩
theorem RpN.mono (e : Exz F G) (n : Nz F) : ∀ (ds : List (NestedKey × D)) (xs : List (NestedKey × Addr × V)), RpN K F ds xs → RpN K G ds xs
  | [], _, h => h
  | (k, d) :: ds, xs, h => by
    obtain ⟨b, x, ys, e1, h0, h1, h2⟩ := h
    exact ⟨b, x, ys, e1, ⟨RkN.mono e n k _ h0.1, h0.2⟩, Rp.mono e n d x h1, RpN.mono e n ds ys h2⟩
theorem RpL.mono (e : Exz F G) (n : Nz F) : ∀ (ds : List D) (xs : List V), RpL K F ds xs → RpL K G ds xs
  | [], _, h => h
  | d :: ds, xs, h => by
    obtain ⟨x, ys, e1, h1, h2⟩ := h
    exact ⟨x, ys, e1, Rp.mono e n d x h1, RpL.mono e n ds ys h2⟩
theorem RpK.mono (e : Exz F G) (n : Nz F) : ∀ (ds : List (Key × D)) (xs : List (Key × V)), RpK K F ds xs → RpK K G ds xs
  | [], _, h => h
  | (k, d) :: ds, xs, h => by
    obtain ⟨x, ys, e1, h1, h2⟩ := h
    exact ⟨x, ys, e1, Rp.mono e n d x h1, RpK.mono e n ds ys h2⟩
theorem RpT.mono (e : Exz F G) (n : Nz F) : ∀ (ds : List (List Key × D)) (xs : List (List Key × V)), RpT K F ds xs → RpT K G ds xs
  | [], _, h => h
  | (k, d) :: ds, xs, h => by
    obtain ⟨x, ys, e1, h1, h2⟩ := h
    exact ⟨x, ys, e1, Rp.mono e n d x h1, RpT.mono e n ds ys h2⟩
theorem RpF.mono (e : Exz F G) (n : Nz F) : ∀ (ds : List (Str × D)) (xs : List (Str × V)), RpF K F ds xs → RpF K G ds xs
  | [], _, h => h
  | (k, d) :: ds, xs, h => by
    obtain ⟨x, ys, e1, h1, h2⟩ := h
    exact ⟨x, ys, e1, Rp.mono e n d x h1, RpF.mono e n ds ys h2⟩
end
end

/-! ### worlds -/
/-- what may be read of B and F together -/
def uni (B F : Hp) : Hp := fun a => match F a with
  | some o => some o
  | none => match B a with
    | some (.frz _ u) => if lk u then some u else none
    | x => x
inductive W where
  | val (d : D) | vw (d : D)
def WOk (K : PySem.W.Frag) (B F : Hp) (v : V) : W → Prop
  | .val d => Rp K F d v
  | .vw d => Rp K (uni B F) d v
inductive Nd where
  | lst (ds : List D) | dic (ds : List (Key × D)) | dit (ds : List (List Key × D)) | ldic (o : Obj) (xs : List (Key × V)) (ds : List (Key × D)) | ins (C : Addr) (ds : List (Str × D)) | xd (ds : List (Str × D))
  | din (w : World) (ds : List (NestedKey × D))
def NdOk (K : PySem.W.Frag) (F H : Hp) (a : Addr) : Nd → Prop
  | .lst ds => ∃ xs, H a = some (.lst xs) ∧ RpL K F ds xs
  | .dic ds => ∃ xs, H a = some (.dK xs) ∧ RpK K F ds xs
  | .dit ds => ∃ xs, H a = some (.dT xs) ∧ RpT K F ds xs
  | .ldic o xs ds => H a = some (.frz o (.dK xs)) ∧ RpK K F ds xs
  | .ins C ds => ∃ dx xs, H a = some (.ins C dx xs) ∧ RpF K F ds xs
  | .xd ds => ∃ xs, H a = some (.xd xs) ∧ RpF K F ds xs
  | .din w ds => ∃ xs, H a = some (DnO w a xs) ∧ RpN K F ds xs
abbrev Cells := List (Addr × Nd)
/-- F has grown, off B -/
structure Gr (B F F' : Hp) : Prop where
  sub : Sub F F'
  off : ∀ a, F a = none → B a ≠ none → F' a = none
theorem Gr.refl (B F : Hp) : Gr B F F := ⟨Sub.refl F, fun _ h _ => h⟩
theorem Gr.trans {B F G H : Hp} (a : Gr B F G) (b : Gr B G H) : Gr B F H := ⟨a.sub.trans b.sub, fun x h n => b.off x (a.off x h n) n⟩
/-- the state by data, over the frozen F: the slots, the cells, what is held on the way -/
structure EnF (K : PySem.W.Frag) (B F : Hp) (ro : List (Option W)) (ka : Cells) (ta : List (V × W)) (sg : L2.St) (H : Hp) : Prop where
  nz : Nz F
  fz : Exz F H
  fr : Sub B H
  nd : (ka.map (·.1)).Nodup
  ce : ∀ p ∈ ka, F p.1 = none ∧ B p.1 = none ∧ NdOk K F H p.1 p.2
  ln : sg.length = ro.length
  sl : ∀ (i : Nat) (w : W), ro[i]? = some (some w) → ∃ v, sg[i]? = some (some v) ∧ WOk K B F v w
  tm : ∀ p ∈ ta, WOk K B F p.1 p.2
def En (K : PySem.W.Frag) (B F0 : Hp) (ro : List (Option W)) (ka : Cells) (ta : List (V × W)) (sg : L2.St) (H : Hp) : Prop :=
  ∃ F, Gr B F0 F ∧ EnF K B F ro ka ta sg H

theorem uni_nz {B F : Hp} (n : Nz F) : Nz (uni B F) := fun a u h => by
  unfold uni at h
  split at h
  · rename_i o q
    exact n a u (q.trans h)
  · split at h
    · rename_i ob x q
      split at h
      · rename_i hx
        cases h
        cases u <;> first | rfl | cases hx
      · cases h
    · rename_i x q
      cases u with
      | frz ob z => exact absurd h (q ob z)
      | _ => rfl
theorem uni_exz {B F H : Hp} (fz : Exz F H) (fr : Sub B H) : Exz (uni B F) H := fun a u h => by
  unfold uni at h
  split at h
  · rename_i o q
    exact fz a u (q.trans h)
  · split at h
    · rename_i ob x q
      split at h
      · rename_i hx
        cases h
        exact .inr ⟨hx, ob, fr _ _ q⟩
      · cases h
    · exact .inl (fr _ _ h)
theorem uni_of {B F : Hp} {a : Addr} {u : HO} (h : F a = some u) : uni B F a = some u := by
  unfold uni
  rw [h]
theorem uni_sub {B F : Hp} : Sub F (uni B F) := fun _ _ h => uni_of h
theorem uni_gr {B F F' : Hp} (g : Gr B F F') : Sub (uni B F) (uni B F') := fun a u h => by
  unfold uni at h ⊢
  cases q : F a with
  | some o =>
    rw [q] at h
    rw [g.sub a o q]
    exact h
  | none =>
    rw [q] at h
    have hb : B a ≠ none := fun z => by
      rw [z] at h
      cases h
    rw [g.off a q hb]
    exact h
theorem wok_gr {K : PySem.W.Frag} {B F F' : Hp} (n : Nz F) (g : Gr B F F') {v : V} {w : W} (h : WOk K B F v w) : WOk K B F' v w := by
  cases w with
  | val d => exact Rp.mono g.sub.exz n d v h
  | vw d => exact Rp.mono (uni_gr g).exz (uni_nz n) d v h
/-- frozen data may be viewed -/
theorem wok_vw {K : PySem.W.Frag} {B F : Hp} (n : Nz F) {v : V} {d : D} (h : WOk K B F v (.val d)) : WOk K B F v (.vw d) := Rp.mono uni_sub.exz n d v h
theorem ndok_gr {K : PySem.W.Frag} {B F F' H : Hp} (n : Nz F) (g : Gr B F F') {a : Addr} {x : Nd} (h : NdOk K F H a x) : NdOk K F' H a x := by
  cases x with
  | lst ds => obtain ⟨xs, e, r⟩ := h; exact ⟨xs, e, RpL.mono g.sub.exz n _ _ r⟩
  | dic ds => obtain ⟨xs, e, r⟩ := h; exact ⟨xs, e, RpK.mono g.sub.exz n _ _ r⟩
  | dit ds => obtain ⟨xs, e, r⟩ := h; exact ⟨xs, e, RpT.mono g.sub.exz n _ _ r⟩
  | ldic o xs ds => obtain ⟨e, r⟩ := h; exact ⟨e, RpK.mono g.sub.exz n _ _ r⟩
  | ins C ds => obtain ⟨dx, xs, e, r⟩ := h; exact ⟨dx, xs, e, RpF.mono g.sub.exz n _ _ r⟩
  | xd ds => obtain ⟨xs, e, r⟩ := h; exact ⟨xs, e, RpF.mono g.sub.exz n _ _ r⟩
  | din w ds => obtain ⟨xs, e, r⟩ := h; exact ⟨xs, e, RpN.mono g.sub.exz n _ _ r⟩
/-- the address where a node stands is taken -/
theorem ndok_ne {K : PySem.W.Frag} {F H : Hp} {a : Addr} {x : Nd} (h : NdOk K F H a x) : H a ≠ none := by
  cases x with
  | lst ds => obtain ⟨xs, e, r⟩ := h; rw [e]; exact fun q => by cases q
  | dic ds => obtain ⟨xs, e, r⟩ := h; rw [e]; exact fun q => by cases q
  | dit ds => obtain ⟨xs, e, r⟩ := h; rw [e]; exact fun q => by cases q
  | ldic o xs ds => obtain ⟨e, r⟩ := h; rw [e]; exact fun q => by cases q
  | ins C ds => obtain ⟨dx, xs, e, r⟩ := h; rw [e]; exact fun q => by cases q
  | xd ds => obtain ⟨xs, e, r⟩ := h; rw [e]; exact fun q => by cases q
  | din w ds => obtain ⟨xs, e, r⟩ := h; rw [e]; exact fun q => by cases q
theorem ndok_at {K : PySem.W.Frag} {F H H' : Hp} {a : Addr} {x : Nd} (e : H' a = H a) (h : NdOk K F H a x) : NdOk K F H' a x := by
  cases x with
  | lst ds => obtain ⟨xs, q, r⟩ := h; exact ⟨xs, e.trans q, r⟩
  | dic ds => obtain ⟨xs, q, r⟩ := h; exact ⟨xs, e.trans q, r⟩
  | dit ds => obtain ⟨xs, q, r⟩ := h; exact ⟨xs, e.trans q, r⟩
  | ldic o xs ds => obtain ⟨q, r⟩ := h; exact ⟨e.trans q, r⟩
  | ins C ds => obtain ⟨dx, xs, q, r⟩ := h; exact ⟨dx, xs, e.trans q, r⟩
  | xd ds => obtain ⟨xs, q, r⟩ := h; exact ⟨xs, e.trans q, r⟩
  | din w ds => obtain ⟨xs, q, r⟩ := h; exact ⟨xs, e.trans q, r⟩
section
variable {K : PySem.W.Frag} {B F F' F0 : Hp} {ro : List (Option W)} {ka : Cells} {ta : List (V × W)} {sg : L2.St} {H : Hp}
/-- a new object is laid as frozen data -/
theorem EnF.lay (e : EnF K B F ro ka ta sg H) {p : Addr} {o : HO} (hp : H p = none) (hn : isfz o = false) : EnF K B (upd F p o) ro ka ta sg (upd H p o) ∧ Gr B F (upd F p o) := by
  have fp : F p = none := e.fz.free hp
  have bp : B p = none := e.fr.free hp
  have g : Gr B F (upd F p o) := ⟨Sub.new fp, fun a h1 h2 => by
    have ne : a ≠ p := fun q => h2 (q ▸ bp)
    rw [upd_ne ne]
    exact h1⟩
  refine ⟨⟨fun a u h => ?_, fun a u h => ?_, fun a u h => ?_, e.nd, fun q hq => ?_, e.ln, fun i w h => ?_, fun q hq => wok_gr e.nz g (e.tm q hq)⟩, g⟩
  · by_cases ha : a = p
    · subst ha; rw [upd_same] at h; cases h; exact hn
    · rw [upd_ne ha] at h; exact e.nz a u h
  · by_cases ha : a = p
    · subst ha; rw [upd_same] at h; cases h; exact .inl upd_same
    · rw [upd_ne ha] at h; exact e.fz.sub (Sub.new hp) a u h
  · have ha : a ≠ p := ne_of_none h bp
    rw [upd_ne ha]; exact e.fr a u h
  · obtain ⟨h1, h2, h3⟩ := e.ce q hq
    have nq : q.1 ≠ p := fun z => ndok_ne h3 (z ▸ hp)
    refine ⟨by rw [upd_ne nq]; exact h1, h2, ndok_at (upd_ne nq) (ndok_gr e.nz g h3)⟩
  · obtain ⟨v, h1, h2⟩ := e.sl i w h
    exact ⟨v, h1, wok_gr e.nz g h2⟩
/-- a new object is laid as a cell -/
theorem EnF.cell (e : EnF K B F ro ka ta sg H) {p : Addr} {o : HO} (hp : H p = none) {n : Nd} (hn : NdOk K F (upd H p o) p n) : EnF K B F ro (ka ++ [(p, n)]) ta sg (upd H p o) := by
  refine ⟨e.nz, e.fz.sub (Sub.new hp), e.fr.trans (Sub.new hp), ?_, fun q hq => ?_, e.ln, e.sl, e.tm⟩
  · rw [List.map_append, List.nodup_append]
    refine ⟨e.nd, by simp, fun a ha b hb => ?_⟩
    obtain ⟨q, hq, rfl⟩ := List.mem_map.mp ha
    simp at hb
    subst hb
    exact fun z => ndok_ne (e.ce q hq).2.2 (z ▸ hp)
  · rcases List.mem_append.mp hq with hq | hq
    · obtain ⟨h1, h2, h3⟩ := e.ce q hq
      have nq : q.1 ≠ p := fun z => ndok_ne h3 (z ▸ hp)
      exact ⟨h1, h2, ndok_at (upd_ne nq) h3⟩
    · simp at hq
      subst hq
      exact ⟨e.fz.free hp, e.fr.free hp, hn⟩
theorem EnF.push (e : EnF K B F ro ka ta sg H) {v : V} {w : W} (h : WOk K B F v w) : EnF K B F ro ka ((v, w) :: ta) sg H :=
  ⟨e.nz, e.fz, e.fr, e.nd, e.ce, e.ln, e.sl, fun p hp => (List.mem_cons.mp hp).elim (fun z => z ▸ h) (e.tm p)⟩
theorem EnF.held (e : EnF K B F ro ka ta sg H) {ta' : List (V × W)} (h : ∀ p ∈ ta', p ∈ ta) : EnF K B F ro ka ta' sg H :=
  ⟨e.nz, e.fz, e.fr, e.nd, e.ce, e.ln, e.sl, fun p hp => e.tm p (h p hp)⟩
/-- a slot is set -/
theorem EnF.set (e : EnF K B F ro ka ta sg H) {v : V} {w : W} (h : WOk K B F v w) (i : Nat) : EnF K B F (ro.set i (some w)) ka ta (sg.set i (some v)) H := by
  refine ⟨e.nz, e.fz, e.fr, e.nd, e.ce, by rw [List.length_set, List.length_set, e.ln], fun j w' hj => ?_, e.tm⟩
  by_cases hij : i = j
  · subst hij
    have hi : i < ro.length := by
      have := (List.getElem?_eq_some_iff.mp hj).1
      rwa [List.length_set] at this
    rw [List.getElem?_set_self hi] at hj
    cases hj
    exact ⟨v, by rw [List.getElem?_set_self (by rw [e.ln]; exact hi)], h⟩
  · rw [List.getElem?_set_ne hij] at hj ⊢
    exact e.sl j w' hj
/-- another frame: its slots -/
theorem EnF.frame (e : EnF K B F ro ka ta sg H) {ro' : List (Option W)} {sg' : L2.St} (hl : sg'.length = ro'.length) (h : ∀ (i : Nat) w, ro'[i]? = some (some w) → ∃ v, sg'[i]? = some (some v) ∧ WOk K B F v w) : EnF K B F ro' ka ta sg' H :=
  ⟨e.nz, e.fz, e.fr, e.nd, e.ce, hl, h, e.tm⟩
/-- cells in another order, some forgotten -/
theorem EnF.cells (e : EnF K B F ro ka ta sg H) {ka' : Cells} (hs : ka'.Sublist ka) : EnF K B F ro ka' ta sg H :=
  ⟨e.nz, e.fz, e.fr, (hs.map _).nodup e.nd, fun p hp => e.ce p (hs.subset hp), e.ln, e.sl, e.tm⟩
theorem EnF.perm (e : EnF K B F ro ka ta sg H) {ka' : Cells} (hs : ka'.Perm ka) : EnF K B F ro ka' ta sg H :=
  ⟨e.nz, e.fz, e.fr, (hs.map _).nodup_iff.mpr e.nd, fun p hp => e.ce p (hs.subset hp), e.ln, e.sl, e.tm⟩
/-- a cell is written -/
theorem EnF.write (e : EnF K B F ro ka ta sg H) {j : Nat} {p : Addr} {n n' : Nd} {o : HO} (hj : ka[j]? = some (p, n)) (hn : NdOk K F (upd H p o) p n') : EnF K B F ro (ka.set j (p, n')) ta sg (upd H p o) := by
  have hjl := (List.getElem?_eq_some_iff.mp hj).1
  have hm : (p, n) ∈ ka := List.mem_of_getElem? hj
  obtain ⟨fp, bp, _⟩ := e.ce _ hm
  have em : (ka.set j (p, n')).map (·.1) = ka.map (·.1) := by
    apply List.ext_getElem?
    intro i
    rw [List.getElem?_map, List.getElem?_map]
    by_cases hij : j = i
    · subst hij
      rw [List.getElem?_set_self hjl, hj]
      rfl
    · rw [List.getElem?_set_ne hij]
  refine ⟨e.nz, fun a u h => ?_, fun a u h => ?_, by rw [em]; exact e.nd, fun q hq => ?_, e.ln, e.sl, e.tm⟩
  · have ha : a ≠ p := ne_of_none h fp
    rcases e.fz a u h with q | ⟨k, ob, q⟩
    · exact .inl (by rw [upd_ne ha]; exact q)
    · exact .inr ⟨k, ob, by rw [upd_ne ha]; exact q⟩
  · have ha : a ≠ p := ne_of_none h bp
    rw [upd_ne ha]
    exact e.fr a u h
  · obtain ⟨i, hi⟩ := List.getElem?_of_mem hq
    by_cases hij : j = i
    · subst hij
      rw [List.getElem?_set_self hjl] at hi
      cases hi
      exact ⟨fp, bp, hn⟩
    · rw [List.getElem?_set_ne hij] at hi
      obtain ⟨h1, h2, h3⟩ := e.ce q (List.mem_of_getElem? hi)
      have nq : q.1 ≠ p := fun z => by
        have h4 : (ka.map (·.1))[i]? = some p := by rw [List.getElem?_map, hi]; simp [z]
        have h5 : (ka.map (·.1))[j]? = some p := by rw [List.getElem?_map, hj]; rfl
        obtain ⟨l1, e1⟩ := List.getElem?_eq_some_iff.mp h4
        obtain ⟨l2, e2⟩ := List.getElem?_eq_some_iff.mp h5
        exact hij ((List.getElem_inj e.nd).mp (e2.trans e1.symm))
      exact ⟨h1, h2, ndok_at (upd_ne nq) h3⟩
end
end DL

/-! DB: what expressions evaluate to, by data (own work). -/
namespace DL
open PySem L2

/-! ### judgements -/
section
variable (K : PySem.W.Frag)
abbrev Ro := List (Option W)
def EvD (te : TE) (ro : Ro) (ka : Cells) (w : W) (ka' : Cells) : Prop := ∀ B F0 ta sg H (Q : VK), En K B F0 ro ka ta sg H → (∀ v H', En K B F0 ro ka' ((v, w) :: ta) sg H' → Q v H') → te sg H Q
/-- a new cell -/
def EvN (te : TE) (ro : Ro) (ka : Cells) (n : Nd) (ka' : Cells) : Prop := ∀ B F0 ta sg H (Q : VK), En K B F0 ro ka ta sg H → (∀ a H', En K B F0 ro (ka' ++ [(a, n)]) ta sg H' → Q (.ref a) H') → te sg H Q
def EvT (tt : TT) (ro : Ro) (ka : Cells) (b : Bool) (ka' : Cells) : Prop := ∀ B F0 ta sg H (Q : Bool → Hp → Prop), En K B F0 ro ka ta sg H → (∀ H', En K B F0 ro ka' ta sg H' → Q b H') → tt sg H Q
def EvA (tr : TA) (ro : Ro) (ka : Cells) (ws : List W) (ka' : Cells) : Prop := ∀ B F0 ta sg H (Q : List V → Hp → Prop), En K B F0 ro ka ta sg H → (∀ vs H', vs.length = ws.length → En K B F0 ro ka' (vs.zip ws ++ ta) sg H' → Q vs H') → tr sg H Q
/-- a two-place operation, a one-place one -/
def RvD (r : R2) (ka : Cells) (x y z : W) : Prop := ∀ B F0 ro ta sg H u v (Q : VK), En K B F0 ro ka ta sg H → (u, x) ∈ ta → (v, y) ∈ ta → (∀ t H', En K B F0 ro ka ((t, z) :: ta) sg H' → Q t H') → r u v H Q
def RvN (r : R2) (ka : Cells) (x y : W) (n : Nd) : Prop := ∀ B F0 ro ta sg H u v (Q : VK), En K B F0 ro ka ta sg H → (u, x) ∈ ta → (v, y) ∈ ta → (∀ a H', En K B F0 ro (ka ++ [(a, n)]) ta sg H' → Q (.ref a) H') → r u v H Q
/-- a call by values -/
def RcD (r : List V → Hp → VK → Prop) (ka : Cells) (xs : List W) (z : W) : Prop := ∀ B F0 ro ta sg H us (Q : VK), En K B F0 ro ka ta sg H → us.length = xs.length → (∀ p ∈ us.zip xs, p ∈ ta) → (∀ t H', En K B F0 ro ka ((t, z) :: ta) sg H' → Q t H') → r us H Q
def RcN (r : List V → Hp → VK → Prop) (ka : Cells) (xs : List W) (n : Nd) : Prop := ∀ B F0 ro ta sg H us (Q : VK), En K B F0 ro ka ta sg H → us.length = xs.length → (∀ p ∈ us.zip xs, p ∈ ta) → (∀ a H', En K B F0 ro (ka ++ [(a, n)]) ta sg H' → Q (.ref a) H') → r us H Q
/-- a part of a slice -/
def EvO (to : TO) (ro : Ro) (ka : Cells) (o : Option Int) (ka' : Cells) : Prop := ∀ B F0 ta sg H (Q : Option Int → Hp → Prop), En K B F0 ro ka ta sg H → (∀ H', En K B F0 ro ka' ta sg H' → Q o H') → to sg H Q
end

section
variable {K : PySem.W.Frag} {B F0 : Hp} {ro : Ro} {ka k1 k2 k3 : Cells} {ta : List (V × W)} {sg : L2.St} {H : Hp} {te tf tg : TE} {tt tu : TT} {tr : TA} {w x y z : W} {n : Nd} {r : R2}
theorem En.held (e : En K B F0 ro ka ta sg H) {ta' : List (V × W)} (h : ∀ p ∈ ta', p ∈ ta) : En K B F0 ro ka ta' sg H :=
  let ⟨F, g, q⟩ := e
  ⟨F, g, q.held h⟩
theorem En.pop {p : V × W} (e : En K B F0 ro ka (p :: ta) sg H) : En K B F0 ro ka ta sg H := e.held fun _ h => List.mem_cons_of_mem _ h
/-- what data says of its value -/
theorem En.push_imm (e : En K B F0 ro ka ta sg H) {v : V} {w : W} (h : ∀ F, WOk K B F v w) : En K B F0 ro ka ((v, w) :: ta) sg H :=
  let ⟨F, g, q⟩ := e
  ⟨F, g, q.push (h F)⟩
theorem En.tm_int (e : En K B F0 ro ka ta sg H) {v : V} {i : Int} (h : (v, W.val (.int i)) ∈ ta) : v = .int i := let ⟨_, _, q⟩ := e; q.tm _ h
theorem En.tm_str (e : En K B F0 ro ka ta sg H) {v : V} {i : Str} (h : (v, W.val (.str i)) ∈ ta) : v = .str i := let ⟨_, _, q⟩ := e; q.tm _ h
theorem En.tm_bl (e : En K B F0 ro ka ta sg H) {v : V} {i : Bool} (h : (v, W.val (.bl i)) ∈ ta) : v = .bl i := let ⟨_, _, q⟩ := e; q.tm _ h
theorem En.tm_non (e : En K B F0 ro ka ta sg H) {v : V} (h : (v, W.val .non) ∈ ta) : v = .non := let ⟨_, _, q⟩ := e; q.tm _ h
theorem En.tm_adr (e : En K B F0 ro ka ta sg H) {v : V} {a : Addr} (h : (v, W.val (.adr a)) ∈ ta) : v = .ref a := let ⟨_, _, q⟩ := e; q.tm _ h
theorem En.tm_ty (e : En K B F0 ro ka ta sg H) {v : V} {i : String} (h : (v, W.val (.ty i)) ∈ ta) : v = .ty i := let ⟨_, _, q⟩ := e; q.tm _ h

/-- data that is the value itself -/
def imm : D → Bool
  | .non => true | .bl _ => true | .int _ => true | .str _ => true | .ty _ => true | .adr _ => true
  | _ => false
theorem imm_any {F G : Hp} : ∀ {d : D} {v : V}, imm d = true → Rp K F d v → Rp K G d v
  | .non, _, _, h => h
  | .bl _, _, _, h => h
  | .int _, _, _, h => h
  | .str _, _, _, h => h
  | .ty _, _, _, h => h
  | .adr _, _, _, h => h
/-- a part of something viewed, of something frozen -/
def part (b : Bool) (d : D) : W := if b && !imm d then .vw d else .val d
theorem wok_part {B F : Hp} {v : V} {d : D} (b : Bool) (h : Rp K (if b then uni B F else F) d v) : WOk K B F v (part b d) := by
  unfold part
  cases b with
  | false => exact h
  | true =>
    cases q : imm d with
    | true => exact imm_any q h
    | false => exact h
/-! ### names, constants -/
theorem ev_var {i : Nat} (h : ro[i]? = some (some w)) : EvD K (tVar i) ro ka w ka := fun B F0 ta sg H Q e q => by
  obtain ⟨F, g, e⟩ := e
  obtain ⟨v, h1, h2⟩ := e.sl i w h
  exact ⟨v, h1, q v H ⟨F, g, e.push h2⟩⟩
theorem ev_int {i : Int} : EvD K (tC (.int i)) ro ka (.val (.int i)) ka := fun B F0 ta sg H Q e q => q _ _ (e.push_imm fun _ => rfl)
theorem ev_str {i : Str} : EvD K (tC (.str i)) ro ka (.val (.str i)) ka := fun B F0 ta sg H Q e q => q _ _ (e.push_imm fun _ => rfl)
theorem ev_bl {i : Bool} : EvD K (tC (.bl i)) ro ka (.val (.bl i)) ka := fun B F0 ta sg H Q e q => q _ _ (e.push_imm fun _ => rfl)
theorem ev_non : EvD K (tC .non) ro ka (.val .non) ka := fun B F0 ta sg H Q e q => q _ _ (e.push_imm fun _ => rfl)
theorem ev_ref {a : Addr} : EvD K (tC (.ref a)) ro ka (.val (.adr a)) ka := fun B F0 ta sg H Q e q => q _ _ (e.push_imm fun _ => rfl)
theorem ev_ty {a : String} : EvD K (tC (.ty a)) ro ka (.val (.ty a)) ka := fun B F0 ta sg H Q e q => q _ _ (e.push_imm fun _ => rfl)

/-! ### operations -/
theorem ev_op (ha : EvD K te ro ka x k1) (hb : EvD K tf ro k1 y k2) (hr : RvD K r k2 x y z) : EvD K (tOp r te tf) ro ka z k2 := fun B F0 ta sg H Q e q =>
  ha B F0 ta sg H _ e fun u H1 e1 => hb B F0 _ sg H1 _ e1 fun v H2 e2 => hr B F0 ro _ sg H2 u v Q e2 (List.mem_cons_of_mem _ List.mem_cons_self) List.mem_cons_self fun t H3 e3 =>
    q t H3 (e3.held fun p hp => by
      rcases List.mem_cons.mp hp with rfl | hp
      · exact List.mem_cons_self
      · exact List.mem_cons_of_mem _ (List.mem_cons_of_mem _ (List.mem_cons_of_mem _ hp)))
theorem evn_op (ha : EvD K te ro ka x k1) (hb : EvD K tf ro k1 y k2) (hr : RvN K r k2 x y n) : EvN K (tOp r te tf) ro ka n k2 := fun B F0 ta sg H Q e q =>
  ha B F0 ta sg H _ e fun u H1 e1 => hb B F0 _ sg H1 _ e1 fun v H2 e2 => hr B F0 ro _ sg H2 u v Q e2 (List.mem_cons_of_mem _ List.mem_cons_self) List.mem_cons_self fun t H3 e3 =>
    q t H3 (e3.held fun p hp => List.mem_cons_of_mem _ (List.mem_cons_of_mem _ hp))
theorem ea_nil : EvA K tNil ro ka [] ka := fun B F0 ta sg H Q e q => q [] H rfl e
theorem ea_cons (ha : EvD K te ro ka x k1) {ws : List W} (hr : EvA K tr ro k1 ws k2) : EvA K (tCons te tr) ro ka (x :: ws) k2 := fun B F0 ta sg H Q e q =>
  ha B F0 ta sg H _ e fun u H1 e1 => hr B F0 _ sg H1 _ e1 fun vs H2 hl e2 => q (u :: vs) H2 (by rw [List.length_cons, List.length_cons, hl]) (e2.held fun p hp => by
    have hp' : p ∈ (u, x) :: (vs.zip ws ++ ta) := hp
    rcases List.mem_cons.mp hp' with rfl | h
    · exact List.mem_append_right _ List.mem_cons_self
    · rcases List.mem_append.mp h with h | h
      · exact List.mem_append_left _ h
      · exact List.mem_append_right _ (List.mem_cons_of_mem _ h))
theorem ev_cb {r : List V → Hp → VK → Prop} {ws : List W} (ha : EvA K tr ro ka ws k1) (hr : RcD K r k1 ws z) : EvD K (tCB r tr) ro ka z k1 := fun B F0 ta sg H Q e q =>
  ha B F0 ta sg H _ e fun us H1 hl e1 => hr B F0 ro _ sg H1 us Q e1 hl (fun p hp => List.mem_append_left _ hp) fun t H2 e2 => q t H2 (e2.held fun p hp => by
    rcases List.mem_cons.mp hp with rfl | hp
    · exact List.mem_cons_self
    · exact List.mem_cons_of_mem _ (List.mem_append_right _ hp))
theorem evn_cb {r : List V → Hp → VK → Prop} {ws : List W} (ha : EvA K tr ro ka ws k1) (hr : RcN K r k1 ws n) : EvN K (tCB r tr) ro ka n k1 := fun B F0 ta sg H Q e q =>
  ha B F0 ta sg H _ e fun us H1 hl e1 => hr B F0 ro _ sg H1 us Q e1 hl (fun p hp => List.mem_append_left _ hp) fun t H2 e2 => q t H2 (e2.held fun p hp => List.mem_append_right _ hp)
/-- another of the ways of an operation -/
theorem rvd_l {r' : R2} (h : RvD K r ka x y z) : RvD K (fun x y H Q => r x y H Q ∨ r' x y H Q) ka x y z := fun B F0 ro ta sg H u v Q e h1 h2 q => .inl (h B F0 ro ta sg H u v Q e h1 h2 q)
theorem rvd_r {r' : R2} (h : RvD K r' ka x y z) : RvD K (fun x y H Q => r x y H Q ∨ r' x y H Q) ka x y z := fun B F0 ro ta sg H u v Q e h1 h2 q => .inr (h B F0 ro ta sg H u v Q e h1 h2 q)
theorem rvn_l {r' : R2} (h : RvN K r ka x y n) : RvN K (fun x y H Q => r x y H Q ∨ r' x y H Q) ka x y n := fun B F0 ro ta sg H u v Q e h1 h2 q => .inl (h B F0 ro ta sg H u v Q e h1 h2 q)
theorem rvn_r {r' : R2} (h : RvN K r' ka x y n) : RvN K (fun x y H Q => r x y H Q ∨ r' x y H Q) ka x y n := fun B F0 ro ta sg H u v Q e h1 h2 q => .inr (h B F0 ro ta sg H u v Q e h1 h2 q)
theorem rcd_l {r r' : List V → Hp → VK → Prop} {xs : List W} (h : RcD K r ka xs z) : RcD K (fun x H Q => r x H Q ∨ r' x H Q) ka xs z := fun B F0 ro ta sg H u Q e h1 h2 q => .inl (h B F0 ro ta sg H u Q e h1 h2 q)
theorem rcd_r {r r' : List V → Hp → VK → Prop} {xs : List W} (h : RcD K r' ka xs z) : RcD K (fun x H Q => r x H Q ∨ r' x H Q) ka xs z := fun B F0 ro ta sg H u Q e h1 h2 q => .inr (h B F0 ro ta sg H u Q e h1 h2 q)
/-! ### a new cell, frozen -/
theorem En.freeze_l (e : En K B F0 ro (ka ++ [(a, .lst ds)]) ta sg H) : En K B F0 ro ka ((.ref a, .val (.lst ds)) :: ta) sg H := by
  obtain ⟨F, g, e⟩ := e
  obtain ⟨fa, ba, xs, ha, rl⟩ := e.ce (a, .lst ds) (by simp)
  have gg : Gr B F (upd F a (.lst xs)) := ⟨Sub.new fa, fun b h1 h2 => by
    have ne : b ≠ a := fun q => h2 (q ▸ ba)
    rw [upd_ne ne]
    exact h1⟩
  have nd2 := e.nd
  rw [List.map_append, List.nodup_append] at nd2
  refine ⟨upd F a (.lst xs), g.trans gg, ⟨fun b u h => ?_, fun b u h => ?_, e.fr, nd2.1, fun q hq => ?_, e.ln, fun i w h => ?_, fun q hq => ?_⟩⟩
  · by_cases hb : b = a
    · subst hb; rw [upd_same] at h; cases h; rfl
    · rw [upd_ne hb] at h; exact e.nz b u h
  · by_cases hb : b = a
    · subst hb; rw [upd_same] at h; cases h; exact .inl ha
    · rw [upd_ne hb] at h; exact e.fz b u h
  · obtain ⟨h1, h2, h3⟩ := e.ce q (List.mem_append_left _ hq)
    have nq : q.1 ≠ a := fun z => nd2.2.2 q.1 (List.mem_map.mpr ⟨q, hq, rfl⟩) a (by simp) z
    exact ⟨by rw [upd_ne nq]; exact h1, h2, ndok_gr e.nz gg h3⟩
  · obtain ⟨v, h1, h2⟩ := e.sl i w h
    exact ⟨v, h1, wok_gr e.nz gg h2⟩
  · rcases List.mem_cons.mp hq with rfl | hq
    · exact ⟨a, xs, rfl, .inl upd_same, RpL.mono gg.sub.exz e.nz _ _ rl⟩
    · exact wok_gr e.nz gg (e.tm q hq)
theorem En.freeze_k (e : En K B F0 ro (ka ++ [(a, .dic ds)]) ta sg H) : En K B F0 ro ka ((.ref a, .val (.dic ds)) :: ta) sg H := by
  obtain ⟨F, g, e⟩ := e
  obtain ⟨fa, ba, xs, ha, rl⟩ := e.ce (a, .dic ds) (by simp)
  have gg : Gr B F (upd F a (.dK xs)) := ⟨Sub.new fa, fun b h1 h2 => by
    have ne : b ≠ a := fun q => h2 (q ▸ ba)
    rw [upd_ne ne]
    exact h1⟩
  have nd2 := e.nd
  rw [List.map_append, List.nodup_append] at nd2
  refine ⟨upd F a (.dK xs), g.trans gg, ⟨fun b u h => ?_, fun b u h => ?_, e.fr, nd2.1, fun q hq => ?_, e.ln, fun i w h => ?_, fun q hq => ?_⟩⟩
  · by_cases hb : b = a
    · subst hb; rw [upd_same] at h; cases h; rfl
    · rw [upd_ne hb] at h; exact e.nz b u h
  · by_cases hb : b = a
    · subst hb; rw [upd_same] at h; cases h; exact .inl ha
    · rw [upd_ne hb] at h; exact e.fz b u h
  · obtain ⟨h1, h2, h3⟩ := e.ce q (List.mem_append_left _ hq)
    have nq : q.1 ≠ a := fun z => nd2.2.2 q.1 (List.mem_map.mpr ⟨q, hq, rfl⟩) a (by simp) z
    exact ⟨by rw [upd_ne nq]; exact h1, h2, ndok_gr e.nz gg h3⟩
  · obtain ⟨v, h1, h2⟩ := e.sl i w h
    exact ⟨v, h1, wok_gr e.nz gg h2⟩
  · rcases List.mem_cons.mp hq with rfl | hq
    · exact ⟨a, xs, rfl, .inl upd_same, RpK.mono gg.sub.exz e.nz _ _ rl⟩
    · exact wok_gr e.nz gg (e.tm q hq)
theorem EvN.lst {ds : List D} (h : EvN K te ro ka (.lst ds) k1) : EvD K te ro ka (.val (.lst ds)) k1 := fun B F0 ta sg H Q e q => h B F0 ta sg H Q e fun a H1 e1 => q _ _ e1.freeze_l
theorem EvN.dic {ds : List (Key × D)} (h : EvN K te ro ka (.dic ds) k1) : EvD K te ro ka (.val (.dic ds)) k1 := fun B F0 ta sg H Q e q => h B F0 ta sg H Q e fun a H1 e1 => q _ _ e1.freeze_k

/-! ### tests -/
theorem et_test {b : Bool} (h : EvD K te ro ka (.val (.bl b)) k1) : EvT K (tTest te) ro ka b k1 := fun B F0 ta sg H Q e q => h B F0 ta sg H _ e fun v H1 e1 => ⟨b, e1.tm_bl List.mem_cons_self, q H1 e1.pop⟩
theorem et_B {b : Bool} (h : EvD K te ro ka (.val (.bl b)) k1) : EvT K (tB te) ro ka b k1 := fun B F0 ta sg H Q e q => h B F0 ta sg H _ e fun v H1 e1 => ⟨b, e1.tm_bl List.mem_cons_self, q H1 e1.pop⟩
theorem et_not {a : Bool} (h : EvT K tt ro ka a k1) : EvT K (tNot tt) ro ka (!a) k1 := fun B F0 ta sg H Q e q => h B F0 ta sg H _ e fun H1 e1 => q H1 e1
/-- and, or: k2 is reached in any case -/
theorem et_and {a b : Bool} (h1 : EvT K tt ro ka a k1) (h2 : a = true → EvT K tu ro k1 b k1) : EvT K (tAnd tt tu) ro ka (a && b) k1 := fun B F0 ta sg H Q e q => h1 B F0 ta sg H _ e fun H1 e1 => by
  cases a with
  | true => exact h2 rfl B F0 ta sg H1 Q e1 q
  | false => exact q H1 e1
theorem et_or {a b : Bool} (h1 : EvT K tt ro ka a k1) (h2 : a = false → EvT K tu ro k1 b k1) : EvT K (tOr tt tu) ro ka (a || b) k1 := fun B F0 ta sg H Q e q => h1 B F0 ta sg H _ e fun H1 e1 => by
  cases a with
  | true => exact q H1 e1
  | false => exact h2 rfl B F0 ta sg H1 Q e1 q
theorem et_or0 {b : Bool} (h1 : EvT K tt ro ka false k1) (h2 : EvT K tu ro k1 b k2) : EvT K (tOr tt tu) ro ka b k2 := fun B F0 ta sg H Q e q => h1 B F0 ta sg H _ e fun H1 e1 => h2 B F0 ta sg H1 Q e1 q
theorem et_or1 (h1 : EvT K tt ro ka true k1) : EvT K (tOr tt tu) ro ka true k1 := fun B F0 ta sg H Q e q => h1 B F0 ta sg H _ e fun H1 e1 => q H1 e1
theorem EvT.to {a b : Bool} (h : EvT K tt ro ka a k1) (e : a = b) : EvT K tt ro ka b k1 := e ▸ h
theorem EvD.to {w' : W} (h : EvD K te ro ka w k1) (e : w = w') : EvD K te ro ka w' k1 := e ▸ h
theorem EvD.imm {d : D} (h : EvD K te ro ka (.vw d) k1) (i : imm d = true) : EvD K te ro ka (.val d) k1 := fun B F0 ta sg H Q e q => h B F0 ta sg H _ e fun v H1 e1 => q v H1 (by
  obtain ⟨F, g, e1⟩ := e1
  have h1 := e1.tm _ List.mem_cons_self
  exact ⟨F, g, (e1.held (ta' := ta) fun p hp => List.mem_cons_of_mem _ hp).push (imm_any i h1)⟩)
theorem EvD.vw {d : D} (h : EvD K te ro ka (.val d) k1) : EvD K te ro ka (.vw d) k1 := fun B F0 ta sg H Q e q => h B F0 ta sg H _ e fun v H1 e1 => q v H1 (by
  obtain ⟨F, g, e1⟩ := e1
  exact ⟨F, g, (e1.held (ta' := ta) fun p hp => List.mem_cons_of_mem _ hp).push (wok_vw e1.nz (e1.tm _ List.mem_cons_self))⟩)
theorem ev_andV {a b : Bool} (h1 : EvD K te ro ka (.val (.bl a)) k1) (h2 : a = true → EvD K tf ro k1 (.val (.bl b)) k1) : EvD K (tAndV te tf) ro ka (.val (.bl (a && b))) k1 := fun B F0 ta sg H Q e q => h1 B F0 ta sg H _ e fun v H1 e1 => ⟨a, e1.tm_bl List.mem_cons_self, by
  have hv := e1.tm_bl List.mem_cons_self
  cases a with
  | true => exact h2 rfl B F0 ta sg H1 Q e1.pop q
  | false => subst hv; exact q _ H1 e1⟩
theorem ev_orV {a b : Bool} (h1 : EvD K te ro ka (.val (.bl a)) k1) (h2 : a = false → EvD K tf ro k1 (.val (.bl b)) k1) : EvD K (tOrV te tf) ro ka (.val (.bl (a || b))) k1 := fun B F0 ta sg H Q e q => h1 B F0 ta sg H _ e fun v H1 e1 => ⟨a, e1.tm_bl List.mem_cons_self, by
  have hv := e1.tm_bl List.mem_cons_self
  cases a with
  | true => subst hv; exact q _ H1 e1
  | false => exact h2 rfl B F0 ta sg H1 Q e1.pop q⟩
theorem ev_ifT (h : EvT K tt ro ka true k1) (h1 : EvD K te ro k1 w k2) : EvD K (tIf tt te tf) ro ka w k2 := fun B F0 ta sg H Q e q => h B F0 ta sg H _ e fun H1 e1 => h1 B F0 ta sg H1 Q e1 q
theorem ev_ifF (h : EvT K tt ro ka false k1) (h1 : EvD K tf ro k1 w k2) : EvD K (tIf tt te tf) ro ka w k2 := fun B F0 ta sg H Q e q => h B F0 ta sg H _ e fun H1 e1 => h1 B F0 ta sg H1 Q e1 q
theorem ev_if {b : Bool} (h : EvT K tt ro ka b k1) (h1 : b = true → EvD K te ro k1 w k2) (h2 : b = false → EvD K tf ro k1 w k2) : EvD K (tIf tt te tf) ro ka w k2 := by
  cases b with
  | true => exact ev_ifT h (h1 rfl)
  | false => exact ev_ifF h (h2 rfl)

/-! ### slices' parts -/
theorem eo_none : EvO K tNoPart ro ka none ka := fun B F0 ta sg H Q e q => q H e
theorem eo_some {i : Int} (h : EvD K te ro ka (.val (.int i)) k1) : EvO K (tPart te) ro ka (some i) k1 := fun B F0 ta sg H Q e q => h B F0 ta sg H _ e fun v H1 e1 => ⟨i, e1.tm_int List.mem_cons_self, q H1 e1.pop⟩

/-! ### tuples, lists displayed -/
theorem rpl_of {B F : Hp} : ∀ {vs : List V} {ds : List D}, vs.length = ds.length → (∀ p ∈ vs.zip (ds.map W.val), WOk K B F p.1 p.2) → RpL K F ds vs
  | [], [], _, _ => rfl
  | [], _ :: _, h, _ => by cases h
  | _ :: _, [], h, _ => by cases h
  | v :: vs, d :: ds, hl, h => ⟨v, vs, rfl, h (v, .val d) List.mem_cons_self, rpl_of (by simpa using hl) fun p hp => h p (List.mem_cons_of_mem _ hp)⟩
theorem rpl_len {F : Hp} : ∀ {ds : List D} {vs : List V}, RpL K F ds vs → vs.length = ds.length
  | [], vs, h => by rw [show vs = [] from h]; rfl
  | d :: ds, vs, h => by
    obtain ⟨x, ys, rfl, _, h2⟩ := h
    rw [List.length_cons, List.length_cons, rpl_len h2]
theorem rpl_get {F : Hp} : ∀ {ds : List D} {vs : List V} {i : Nat} {d : D}, RpL K F ds vs → ds[i]? = some d → ∃ v, vs[i]? = some v ∧ Rp K F d v
  | [], _, _, _, _, e => by simp at e
  | d0 :: ds, vs, 0, d, h, e => by
    obtain ⟨x, ys, rfl, h1, _⟩ := h
    cases e
    exact ⟨x, rfl, h1⟩
  | d0 :: ds, vs, i + 1, d, h, e => by
    obtain ⟨x, ys, rfl, _, h2⟩ := h
    obtain ⟨v, q1, q2⟩ := rpl_get (i := i) (d := d) h2 (by simpa using e)
    exact ⟨v, by simpa using q1, q2⟩
theorem rpl_app {F : Hp} : ∀ {ds es : List D} {xs ys : List V}, RpL K F ds xs → RpL K F es ys → RpL K F (ds ++ es) (xs ++ ys)
  | [], es, xs, ys, h, h2 => by rw [show xs = [] from h]; exact h2
  | d :: ds, es, xs, ys, h, h2 => by
    obtain ⟨x, zs, rfl, h1, h3⟩ := h
    exact ⟨x, zs ++ ys, rfl, h1, rpl_app h3 h2⟩
theorem rpl_drop {F : Hp} : ∀ (n : Nat) {ds : List D} {xs : List V}, RpL K F ds xs → RpL K F (ds.drop n) (xs.drop n)
  | 0, _, _, h => h
  | n + 1, [], xs, h => by rw [show xs = [] from h]; rfl
  | n + 1, d :: ds, xs, h => by
    obtain ⟨x, ys, rfl, _, h2⟩ := h
    exact rpl_drop n h2
theorem rpl_take {F : Hp} : ∀ (n : Nat) {ds : List D} {xs : List V}, RpL K F ds xs → RpL K F (ds.take n) (xs.take n)
  | 0, _, _, _ => rfl
  | n + 1, [], xs, h => by rw [show xs = [] from h]; rfl
  | n + 1, d :: ds, xs, h => by
    obtain ⟨x, ys, rfl, h1, h2⟩ := h
    exact ⟨x, ys.take n, rfl, h1, rpl_take n h2⟩
theorem rpl_set {F : Hp} : ∀ {ds : List D} {xs : List V} (i : Nat) {d : D} {v : V}, RpL K F ds xs → Rp K F d v → RpL K F (ds.set i d) (xs.set i v)
  | [], xs, _, _, _, h, _ => by rw [show xs = [] from h]; rfl
  | d :: ds, xs, 0, _, _, h, q => by
    obtain ⟨x, ys, rfl, h1, h2⟩ := h
    exact ⟨_, ys, rfl, q, h2⟩
  | d :: ds, xs, i + 1, _, _, h, q => by
    obtain ⟨x, ys, rfl, h1, h2⟩ := h
    exact ⟨x, _, rfl, h1, rpl_set i h2 q⟩
theorem ev_tup {ds : List D} (h : EvA K tr ro ka (ds.map W.val) k1) (hl : ds.length ≤ 100000 := by decide) : EvD K (tTup tr) ro ka (.val (.tup ds)) k1 := fun B F0 ta sg H Q e q => h B F0 ta sg H _ e fun vs H1 hvl e1 => by
  rw [List.length_map] at hvl
  refine ⟨Nat.le_trans (by rw [hvl]; exact hl) (by decide : 100000 ≤ sizeLine), fun p hp => q _ _ ?_⟩
  obtain ⟨F, g, e1⟩ := e1
  obtain ⟨e2, g2⟩ := e1.lay (o := .tup vs) hp rfl
  refine ⟨_, g.trans g2, (e2.held (ta' := ta) fun p hp => List.mem_append_right _ hp).push ⟨p, vs, rfl, .inl (.inl upd_same), ?_⟩⟩
  exact RpL.mono g2.sub.exz e1.nz _ _ (rpl_of hvl fun z hz => e1.tm z (List.mem_append_left _ hz))
theorem evn_lst {ds : List D} (h : EvA K tr ro ka (ds.map W.val) k1) (hl : ds.length ≤ 100000 := by decide) : EvN K (tLst tr) ro ka (.lst ds) k1 := fun B F0 ta sg H Q e q => h B F0 ta sg H _ e fun vs H1 hvl e1 => by
  rw [List.length_map] at hvl
  refine ⟨Nat.le_trans (by rw [hvl]; exact hl) (by decide : 100000 ≤ sizeLine), fun p hp => q _ _ ?_⟩
  obtain ⟨F, g, e1⟩ := e1
  refine ⟨F, g, (e1.cell (o := .lst vs) hp (n := .lst ds) ⟨vs, upd_same, rpl_of hvl fun z hz => e1.tm z (List.mem_append_left _ hz)⟩).held fun p hp => List.mem_append_right _ hp⟩
end
end DL

/-! DC: operations by data (own work). -/
namespace DL
open PySem L2

/-! ### universal operators: each of the ways that this text takes -/
abbrev rAddI : R2 := rI0 fun i j => .int (i + j)
abbrev rAddS : R2 := fun x y H Q => ∃ i j, x = .str i ∧ y = .str j ∧ i.length + j.length ≤ sizeLine ∧ Q (.str (i ++ j)) H
/-- list + list, locked or not -/
def rCatR : R2 := fun x y H Q => ∃ l b xs zs, x = .ref l ∧ y = .ref b ∧ Rd H l (.lst xs) ∧ Rd H b (.lst zs) ∧ xs.length + zs.length ≤ sizeLine ∧ ∀ p, H p = none → Q (.ref p) (upd H p (.lst (xs ++ zs)))
section
variable {X : Cx}
theorem op_catR : OpR X (binaryOp .Add) rCatR := fun pins s sg H x y v u Q I rx ry h => by
  obtain ⟨l, b, xs, zs, ex, ey, h1, h2, hz, q⟩ := h
  subst ex ey
  cases rx
  cases ry
  have ⟨_, us, _, r, e⟩ := h1.ok I.hok
  have ⟨_, ws, _, r2, e2⟩ := h2.ok I.hok
  have lens : us.length + ws.length ≤ sizeLine := by rw [← r.length, ← r2.length]; exact hz
  refine PySem.P.add_list e e2 ?_ (show us.toArray.size + ws.toArray.size ≤ _ by rw [us.size_toArray, ws.size_toArray]; exact lens)
  rw [List.append_toArray]
  exact ⟨.ref _, _, I.lnew (t' := s.toks) (r.append r2) (xs.length_append ▸ hz), rfl, q _ I.fresh⟩
def rAddU (K : PySem.W.Frag) : R2 := fun x y H Q => rAddI x y H Q ∨ (fun x y H Q => rAddS x y H Q ∨ (fun x y H Q => rCatR x y H Q ∨ rCatA K x y H Q) x y H Q) x y H Q
theorem op_addU : OpR X (binaryOp .Add) (rAddU X.K) := op_add.or (op_add_str.or (op_catR.or op_catA))
/-- s * n for texts -/
abbrev rSubI : R2 := rI0 fun i j => .int (i - j)
abbrev rPowI : R2 := rI CPow fun i j => .int (i ^ j.toNat)
abbrev rModI : R2 := rI (fun _ j => 0 < j) fun i j => .int (i % j)
abbrev rDivI : R2 := rI CDiv fun i j => .int (i / j)
abbrev rLtI : R2 := rI0 fun i j => .bl (decide (i < j))
abbrev rGtI : R2 := rI0 fun i j => .bl (decide (j < i))
abbrev rGeI : R2 := rI0 fun i j => .bl (decide (j ≤ i))
end

section
variable {K : PySem.W.Frag} {B F0 : Hp} {ro : Ro} {ka k1 k2 k3 : Cells} {ta : List (V × W)} {sg : L2.St} {H : Hp} {te tf tg : TE} {tl th : TO} {tr : TA} {w x y z : W} {n : Nd} {r : R2}

/-! ### numbers -/
theorem rv_I0 {g : Int → Int → V} {i j : Int} {d : D} (h : ∀ F, Rp K F d (g i j)) : RvD K (rI0 g) ka (.val (.int i)) (.val (.int j)) (.val d) := fun B F0 ro ta sg H u v Q e h1 h2 q =>
  ⟨i, j, e.tm_int h1, e.tm_int h2, q _ _ (e.push_imm fun F => h F)⟩
theorem rv_I {C : Int → Int → Prop} {g : Int → Int → V} {i j : Int} {d : D} (c : C i j) (h : ∀ F, Rp K F d (g i j)) : RvD K (rI C g) ka (.val (.int i)) (.val (.int j)) (.val d) := fun B F0 ro ta sg H u v Q e h1 h2 q =>
  ⟨i, j, e.tm_int h1, e.tm_int h2, c, q _ _ (e.push_imm fun F => h F)⟩
theorem rv_addI {i j : Int} : RvD K (rAddU K) ka (.val (.int i)) (.val (.int j)) (.val (.int (i + j))) := rvd_l (rv_I0 fun _ => rfl)
theorem rv_addS {i j : Str} (h : i.length + j.length ≤ 100000) : RvD K (rAddU K) ka (.val (.str i)) (.val (.str j)) (.val (.str (i ++ j))) := rvd_r (rvd_l fun B F0 ro ta sg H u v Q e h1 h2 q =>
  ⟨i, j, e.tm_str h1, e.tm_str h2, Nat.le_trans h (by decide), q _ _ (e.push_imm fun F => rfl)⟩)
theorem rv_sub {i j : Int} : RvD K rSubI ka (.val (.int i)) (.val (.int j)) (.val (.int (i - j))) := rv_I0 fun _ => rfl
theorem rv_pow {i j : Int} (c : CPow i j) : RvD K rPowI ka (.val (.int i)) (.val (.int j)) (.val (.int (i ^ j.toNat))) := rv_I c fun _ => rfl
theorem rv_mod {i j : Int} (c : 0 < j) : RvD K rModI ka (.val (.int i)) (.val (.int j)) (.val (.int (i % j))) := rv_I c fun _ => rfl
theorem rv_div {i j : Int} (c : CDiv i j) : RvD K rDivI ka (.val (.int i)) (.val (.int j)) (.val (.int (i / j))) := rv_I c fun _ => rfl
theorem rv_lt {i j : Int} : RvD K rLtI ka (.val (.int i)) (.val (.int j)) (.val (.bl (decide (i < j)))) := rv_I0 fun _ => rfl
theorem rv_gt {i j : Int} : RvD K rGtI ka (.val (.int i)) (.val (.int j)) (.val (.bl (decide (j < i)))) := rv_I0 fun _ => rfl
theorem rv_ge {i j : Int} : RvD K rGeI ka (.val (.int i)) (.val (.int j)) (.val (.bl (decide (j ≤ i)))) := rv_I0 fun _ => rfl
/-! ### sequences: what stands behind a value -/
/-- w is a sequence of ds: t: a tuple; b: viewed -/
inductive Lk (ka : Cells) : W → Bool → List D → Bool → Prop where
  | vl {ds} : Lk ka (.val (.lst ds)) false ds false
  | vt {ds} : Lk ka (.val (.tup ds)) true ds false
  | wl {ds} : Lk ka (.vw (.lst ds)) false ds true
  | wt {ds} : Lk ka (.vw (.tup ds)) true ds true
  | ce {a ds} (j : Nat) (h : ka[j]? = some (a, .lst ds)) : Lk ka (.val (.adr a)) false ds false
def SqB (K : PySem.W.Frag) (t : Bool) (H : Hp) (a : Addr) (xs : List V) : Prop := if t then SqT K H a xs else Rd H a (.lst xs)
theorem SqB.sq {t : Bool} {a : Addr} {xs : List V} (h : SqB K t H a xs) : SqL K H a xs ∨ SqT K H a xs := by
  cases t with
  | true => exact .inr h
  | false => exact .inl (.inl h)
/-- what a sequence's value is, its items over a heap G that H holds -/
theorem Lk.get {F : Hp} {t b : Bool} {ds : List D} {v : V} (l : Lk ka w t ds b) (e : EnF K B F ro ka ta sg H) (h : WOk K B F v w) :
    ∃ a xs, v = .ref a ∧ SqB K t H a xs ∧ RpL K (if b then uni B F else F) ds xs := by
  cases l with
  | vl =>
    obtain ⟨a, xs, rfl, h1, h2⟩ := h
    exact ⟨a, xs, rfl, e.fz.rd e.nz h1, h2⟩
  | vt =>
    obtain ⟨a, xs, rfl, h1, h2⟩ := h
    exact ⟨a, xs, rfl, sqT_mono e.fz e.nz h1, h2⟩
  | wl =>
    obtain ⟨a, xs, rfl, h1, h2⟩ := h
    exact ⟨a, xs, rfl, (uni_exz e.fz e.fr).rd (uni_nz e.nz) h1, h2⟩
  | wt =>
    obtain ⟨a, xs, rfl, h1, h2⟩ := h
    exact ⟨a, xs, rfl, sqT_mono (uni_exz e.fz e.fr) (uni_nz e.nz) h1, h2⟩
  | @ce a ds j hj =>
    obtain ⟨_, _, xs, h1, h2⟩ := e.ce _ (List.mem_of_getElem? hj)
    have hv : v = .ref a := h
    exact ⟨a, xs, hv, .inl h1, h2⟩
theorem Lk.at {F : Hp} {t b : Bool} {ds : List D} {v : V} (l : Lk ka w t ds b) (e : EnF K B F ro ka ta sg H) (h : WOk K B F v w) :
    ∃ a xs, v = .ref a ∧ (SqL K H a xs ∨ SqT K H a xs) ∧ RpL K (if b then uni B F else F) ds xs :=
  let ⟨a, xs, h1, h2, h3⟩ := l.get e h
  ⟨a, xs, h1, h2.sq, h3⟩

/-! ### len -/
/-- len: sequences, texts, dicts -/
def rLenU (K : PySem.W.Frag) : List V → Hp → VK → Prop := fun xs H Q => (fun xs H Q => ∃ p ys, xs = [.ref p] ∧ (SqL K H p ys ∨ SqT K H p ys) ∧ Q (.int ys.length) H) xs H Q ∨ (fun xs H Q => ∃ z, xs = [.str z] ∧ z.length ≤ sizeLine ∧ Q (.int z.length) H) xs H Q
theorem call_lenU {X : Cx} : CallR X (.builtin "len") (rLenU X.K) := call_len_seq.or call_len_str
theorem zip_one {us : List V} {x : W} (h : us.length = [x].length) (hm : ∀ p ∈ us.zip [x], p ∈ ta) : ∃ u, us = [u] ∧ (u, x) ∈ ta := by
  match us, h with
  | [u], _ => exact ⟨u, rfl, hm _ List.mem_cons_self⟩
theorem zip_two {us : List V} {x y : W} (h : us.length = [x, y].length) (hm : ∀ p ∈ us.zip [x, y], p ∈ ta) : ∃ u v, us = [u, v] ∧ (u, x) ∈ ta ∧ (v, y) ∈ ta := by
  match us, h with
  | [u, v], _ => exact ⟨u, v, rfl, hm _ List.mem_cons_self, hm _ (List.mem_cons_of_mem _ List.mem_cons_self)⟩
theorem rc_len {t b : Bool} {ds : List D} (l : Lk ka w t ds b) : RcD K (rLenU K) ka [w] (.val (.int ds.length)) := rcd_l fun B F0 ro ta sg H us Q e hl hm q => by
  obtain ⟨u, rfl, hu⟩ := zip_one hl hm
  obtain ⟨F, g, e⟩ := e
  obtain ⟨a, xs, rfl, h1, h2⟩ := l.at e (e.tm _ hu)
  refine ⟨a, xs, rfl, h1, ?_⟩
  rw [rpl_len h2]
  exact q _ _ ⟨F, g, e.push rfl⟩
theorem rc_lenS {s : Str} (h : s.length ≤ 100000) : RcD K (rLenU K) ka [.val (.str s)] (.val (.int s.length)) := rcd_r fun B F0 ro ta sg H us Q e hl hm q => by
  obtain ⟨u, rfl, hu⟩ := zip_one hl hm
  have hv := e.tm_str hu
  subst hv
  exact ⟨s, rfl, Nat.le_trans h (by decide), q _ _ (e.push_imm fun _ => rfl)⟩

/-! ### items -/
theorem atI_map {α β : Type} {f : α → β → Prop} {xs : List α} {ys : List β} (hl : xs.length = ys.length) {i : Int} {y : β} (h : atI ys i = some y) (hf : ∀ (j : Nat) y, ys[j]? = some y → ∃ x, xs[j]? = some x ∧ f x y) : ∃ x, atI xs i = some x ∧ f x y := by
  unfold atI at h ⊢
  rw [hl]
  cases q : ixN ys.length i with
  | none => rw [q] at h; cases h
  | some j =>
    rw [q] at h
    exact hf j y h
theorem rv_ix {t b : Bool} {ds : List D} {i : Int} {d : D} (l : Lk ka w t ds b) (hd : atI ds i = some d) : RvD K (rIx K) ka w (.val (.int i)) (part b d) := fun B F0 ro ta sg H u v Q e h1 h2 q => by
  have hv := e.tm_int h2
  subst hv
  obtain ⟨F, g, e⟩ := e
  obtain ⟨a, xs, rfl, s1, s2⟩ := l.at e (e.tm _ h1)
  obtain ⟨z, hz, rz⟩ := atI_map (f := fun x d => Rp K (if b then uni B F else F) d x) (rpl_len s2) hd fun j y hy => rpl_get s2 hy
  have fin := q z H ⟨F, g, e.push (wok_part b rz)⟩
  rcases s1 with s1 | s1
  · exact .inl ⟨a, xs, i, z, rfl, rfl, s1, hz, fin⟩
  · exact .inr (.inl ⟨a, xs, i, z, rfl, rfl, s1, hz, fin⟩)
theorem rv_ixS {s : Str} {i : Int} {c : Nat} (hs : s.length ≤ 100000) (hc : atI s.cps.toList i = some c) : RvD K (rIx K) ka (.val (.str s)) (.val (.int i)) (.val (.str ⟨#[c]⟩)) := fun B F0 ro ta sg H u v Q e h1 h2 q =>
  .inr (.inr ⟨s, i, c, e.tm_str h1, e.tm_int h2, Nat.le_trans hs (by decide), hc, q _ _ (e.push_imm fun _ => rfl)⟩)

/-! ### slices -/
abbrev rSlU (K : PySem.W.Frag) : V → Option Int → Option Int → Hp → VK → Prop := fun x lo hi H Q => rSlL K x lo hi H Q ∨ (fun x lo hi H Q => rSlA K x lo hi H Q ∨ rSlS x lo hi H Q) x lo hi H Q
theorem sl_U {X : Cx} : SlR X (rSlU X.K) := sl_list.or (sl_tupA.or sl_str)
def cutD {α : Type} (xs : List α) (lo hi : Option Int) : List α := (xs.drop (HT.sIx xs.length 0 lo)).take (HT.sIx xs.length xs.length hi - HT.sIx xs.length 0 lo)
theorem rpl_cut {F : Hp} {ds : List D} {xs : List V} (h : RpL K F ds xs) (lo hi : Option Int) : RpL K F (cutD ds lo hi) (cutV xs lo hi) := by
  unfold cutD cutV
  rw [rpl_len h]
  exact rpl_take _ (rpl_drop _ h)
theorem evn_sl {lo hi : Option Int} {ds : List D} (ha : EvD K te ro ka w k1) (h1 : EvO K tl ro k1 lo k2) (h2 : EvO K th ro k2 hi k3) (l : Lk k3 w false ds false) : EvN K (tSl (rSlU K) te tl th) ro ka (.lst (cutD ds lo hi)) k3 := fun B F0 ta sg H Q e q =>
  ha B F0 ta sg H _ e fun u H1 e1 => h1 B F0 _ sg H1 _ e1 fun H2 e2 => h2 B F0 _ sg H2 _ e2 fun H3 e3 => by
    obtain ⟨F, g, e3⟩ := e3
    obtain ⟨a, xs, rfl, s1, s2⟩ := l.get e3 (e3.tm _ List.mem_cons_self)
    refine .inl ⟨a, xs, rfl, .inl s1, fun p hp => q p _ ?_⟩
    exact ⟨F, g, (e3.cell (o := .lst (cutV xs lo hi)) hp (n := .lst (cutD ds lo hi)) ⟨_, upd_same, rpl_cut s2 lo hi⟩).held fun p hp => List.mem_cons_of_mem _ hp⟩
theorem ev_slT {lo hi : Option Int} {ds : List D} (ha : EvD K te ro ka (.val (.tup ds)) k1) (h1 : EvO K tl ro k1 lo k2) (h2 : EvO K th ro k2 hi k3) : EvD K (tSl (rSlU K) te tl th) ro ka (.val (.tup (cutD ds lo hi))) k3 := fun B F0 ta sg H Q e q =>
  ha B F0 ta sg H _ e fun u H1 e1 => h1 B F0 _ sg H1 _ e1 fun H2 e2 => h2 B F0 _ sg H2 _ e2 fun H3 e3 => by
    obtain ⟨F, g, e3⟩ := e3
    obtain ⟨a, xs, rfl, s1, s2⟩ := Lk.vt.get e3 (e3.tm _ List.mem_cons_self)
    have hk := e3.tm _ List.mem_cons_self
    refine .inr (.inl ⟨a, xs, rfl, s1, fun hw => q _ _ ⟨F, g, (e3.held (ta' := ta) fun p hp => List.mem_cons_of_mem _ hp).push ?_⟩, fun _ p hp => q (.ref p) _ ?_⟩)
    · have e0 : cutD ds lo hi = ds := by
        unfold cutD
        rw [← rpl_len s2, hw.1, hw.2]
        simp
        exact List.take_of_length_le (by rw [rpl_len s2]; exact Nat.le_refl _)
      rw [e0]
      exact hk
    · obtain ⟨e4, g4⟩ := e3.lay (o := .tup (cutV xs lo hi)) hp rfl
      exact ⟨_, g.trans g4, (e4.held (ta' := ta) fun p hp => List.mem_cons_of_mem _ hp).push ⟨p, _, rfl, .inl (.inl upd_same), RpL.mono g4.sub.exz e3.nz _ _ (rpl_cut s2 lo hi)⟩⟩
theorem ev_slS {lo hi : Option Int} {s : Str} (ha : EvD K te ro ka (.val (.str s)) k1) (h1 : EvO K tl ro k1 lo k2) (h2 : EvO K th ro k2 hi k3) (hs : s.length ≤ 100000) : EvD K (tSl (rSlU K) te tl th) ro ka (.val (.str (cutS s lo hi))) k3 := fun B F0 ta sg H Q e q =>
  ha B F0 ta sg H _ e fun u H1 e1 => h1 B F0 _ sg H1 _ e1 fun H2 e2 => h2 B F0 _ sg H2 _ e2 fun H3 e3 =>
    .inr (.inr ⟨s, e3.tm_str List.mem_cons_self, Nat.le_trans hs (by decide), q _ _ (e3.pop.push_imm fun _ => rfl)⟩)

/-! ### list + list, tuple + tuple -/
theorem rvn_cat {b1 b2 : Bool} {ds es : List D} (l1 : Lk ka x false ds false) (l2 : Lk ka y false es false) (hz : ds.length + es.length ≤ 100000) : RvN K (rAddU K) ka x y (.lst (ds ++ es)) :=
  rvn_r (rvn_r (rvn_l fun B F0 ro ta sg H u v Q e h1 h2 q => by
    obtain ⟨F, g, e⟩ := e
    obtain ⟨a, xs, rfl, s1, r1⟩ := l1.get e (e.tm _ h1)
    obtain ⟨b, ys, rfl, s2, r2⟩ := l2.get e (e.tm _ h2)
    refine ⟨a, b, xs, ys, rfl, rfl, s1, s2, by rw [rpl_len r1, rpl_len r2]; exact Nat.le_trans hz (by decide), fun p hp => q p _ ?_⟩
    exact ⟨F, g, e.cell (o := .lst (xs ++ ys)) hp (n := .lst (ds ++ es)) ⟨_, upd_same, rpl_app r1 r2⟩⟩))
end
end DL

/-! DS: statements, loops, contracts by data (own work). -/
namespace DL
open PySem L2

section
variable (K : PySem.W.Frag)
/-- from such a state P holds -/
def Gp (B F0 : Hp) (ta : List (V × W)) (P : L2.St → Hp → Prop) (ro : Ro) (ka : Cells) : Prop := ∀ sg H, En K B F0 ro ka ta sg H → P sg H
/-- how a call ends: with data, or an exception of a class, its own fields -/
inductive Out where
  | ret (d : D) | exc (C : Addr) (fs : List (Str × D)) | exc0 (C : Addr)
abbrev Ct := List W → Cells → (Out → Cells → Prop) → Prop
/-- what is wanted at a return -/
def RtOk (B F0 : Hp) (out : Out → Cells → Prop) (rt : VK) : Prop := ∀ d ka v H, out (.ret d) ka → En K B F0 [] ka [(v, .val d)] [] H → rt v H
def RxOk (B F0 : Hp) (out : Out → Cells → Prop) (E : XK) : Prop :=
  (∀ C fs ka dx H, out (.exc C fs) ka → En K B F0 [] (ka ++ [(dx, .xd fs)]) [] [] H → E (.ref C) (some dx) H) ∧
  ∀ C ka H, out (.exc0 C) ka → En K B F0 [] ka [] [] H → E (.ref C) none H
/-- the promise of a contract -/
def spC (C : Ct) : Sp := fun vs H Q E => ∃ B F args ka out, C args ka out ∧ vs.length = args.length ∧ En K B F [] ka (vs.zip args) [] H ∧ RtOk K B F out Q ∧ RxOk K B F out E
end

section
variable {K : PySem.W.Frag} {B F0 : Hp} {ro : Ro} {ka k1 k2 k3 : Cells} {ta : List (V × W)} {sg : L2.St} {H : Hp} {te tf tg : TE} {tl th : TO} {tr : TA} {tt : TT} {w x y z : W} {n : Nd} {r : R2} {De : Ends} {t u : TS} {P : L2.St → Hp → Prop}
theorem En.gp (e : En K B F0 ro ka ta sg H) (h : Gp K B F0 ta P ro ka) : P sg H := h sg H e
theorem En.set (e : En K B F0 ro ka ((v, w) :: ta) sg H) (i : Nat) : En K B F0 (ro.set i (some w)) ka ta (sg.set i (some v)) H :=
  let ⟨F, g, q⟩ := e
  ⟨F, g, (q.set (q.tm _ List.mem_cons_self) i).held fun _ h => List.mem_cons_of_mem _ h⟩
theorem En.setA (e : En K B F0 ro ka ta sg H) (i : Nat) (a : Addr) : En K B F0 (ro.set i (some (.val (.adr a)))) ka ta (sg.set i (some (.ref a))) H :=
  let ⟨F, g, q⟩ := e
  ⟨F, g, q.set (w := .val (.adr a)) rfl i⟩
/-! ### plain statements -/
theorem g_seq (h : Gp K B F0 ta (t { De with nx := u De }) ro ka) : Gp K B F0 ta (tSeq t u De) ro ka := h
theorem g_next (h : Gp K B F0 ta De.nx ro ka) : Gp K B F0 ta (tNext De) ro ka := h
theorem g_asg {i : Nat} (h : EvD K te ro ka w k1) (k : Gp K B F0 ta De.nx (ro.set i (some w)) k1) : Gp K B F0 ta (tAsg te (gName i) De) ro ka := fun sg H e => h B F0 ta sg H _ e fun v H1 e1 => k _ _ (e1.set i)
theorem g_asgN {i : Nat} (h : EvN K te ro ka n k1) (k : ∀ a, Gp K B F0 ta De.nx (ro.set i (some (.val (.adr a)))) (k1 ++ [(a, n)])) : Gp K B F0 ta (tAsg te (gName i) De) ro ka := fun sg H e => h B F0 ta sg H _ e fun a H1 e1 => k a _ _ (e1.setA i a)
theorem q_asg {i : Nat} (h : EvD K te ro ka w k1) (k : Gp K B F0 ta (u De) (ro.set i (some w)) k1) : Gp K B F0 ta (tSeq (tAsg te (gName i)) u De) ro ka := g_asg (De := { De with nx := u De }) h k
theorem q_asgN {i : Nat} (h : EvN K te ro ka n k1) (k : ∀ a, Gp K B F0 ta (u De) (ro.set i (some (.val (.adr a)))) (k1 ++ [(a, n)])) : Gp K B F0 ta (tSeq (tAsg te (gName i)) u De) ro ka := g_asgN (De := { De with nx := u De }) h k
theorem g_drop (h : EvD K te ro ka w k1) (k : Gp K B F0 ta De.nx ro k1) : Gp K B F0 ta (tDrop te De) ro ka := fun sg H e => h B F0 ta sg H _ e fun v H1 e1 => k _ _ e1.pop
theorem q_drop (h : EvD K te ro ka w k1) (k : Gp K B F0 ta (u De) ro k1) : Gp K B F0 ta (tSeq (tDrop te) u De) ro ka := g_drop (De := { De with nx := u De }) h k
theorem g_if {b : Bool} {u : TS} (h : EvT K tt ro ka b k1) (h1 : b = true → Gp K B F0 ta (t De) ro k1) (h2 : b = false → Gp K B F0 ta (u De) ro k1) : Gp K B F0 ta (tIfS tt t u De) ro ka := fun sg H e => h B F0 ta sg H _ e fun H1 e1 => by
  cases b with
  | true => exact h1 rfl _ _ e1
  | false => exact h2 rfl _ _ e1
/-- an if without else -/
theorem q_when {b : Bool} (h : EvT K tt ro ka b k1) (h1 : b = true → Gp K B F0 ta (t { De with nx := u De }) ro k1) (h2 : b = false → Gp K B F0 ta (u De) ro k1) : Gp K B F0 ta (tSeq (tIfS tt t tNext) u De) ro ka := g_if (De := { De with nx := u De }) h h1 h2
theorem En.leave (e : En K B F0 ro ka ((v, w) :: ta) sg H) : En K B F0 [] ka [(v, w)] [] H :=
  let ⟨F, g, q⟩ := e
  ⟨F, g, (q.frame (ro' := []) (sg' := []) rfl fun i w h => by simp at h).held fun p hp => by
    have : p = (v, w) := by simpa using hp
    rw [this]
    exact List.mem_cons_self⟩
theorem g_ret {out : Out → Cells → Prop} {d : D} {De : Ends} (hr : RtOk K B F0 out De.rt) (h : EvD K te ro ka (.val d) k1) (o : out (.ret d) k1) : Gp K B F0 ta (tRet te De) ro ka := fun sg H e => h B F0 ta sg H _ e fun v H1 e1 => hr d k1 v H1 o e1.leave
/-- the body's end without a return -/
theorem g_end {out : Out → Cells → Prop} {Q : VK} (hr : RtOk K B F0 out Q) (o : out (.ret .non) ka) : Gp K B F0 ta (fun _ H' => Q .non H') ro ka := fun sg H e => hr .non ka .non H o ((e.push_imm (v := .non) (w := .val .non) fun _ => rfl).leave)
/-! ### cells changed -/
theorem EnF.rd_lst {F : Hp} (e : EnF K B F ro ka ta sg H) {j : Nat} {a : Addr} {ds : List D} (hj : ka[j]? = some (a, .lst ds)) : ∃ xs, H a = some (.lst xs) ∧ RpL K F ds xs := (e.ce _ (List.mem_of_getElem? hj)).2.2
theorem g_app {j0 j : Nat} {a : Addr} {ds0 ds : List D} {d : D} {De : Ends} (ho : EvD K te ro ka (.val (.adr a)) k1) (h0 : k1[j0]? = some (a, .lst ds0)) (he : EvD K tf ro k1 (.val d) k2) (hj : k2[j]? = some (a, .lst ds)) (hz : ds.length < 100000)
    (k : Gp K B F0 ta De.nx ro (k2.set j (a, .lst (ds ++ [d])))) : Gp K B F0 ta (tDrop (tBM K "list" rAppend te (tCons tf tNil)) De) ro ka := fun sg H e => ho B F0 ta sg H _ e fun u H1 e1 => by
  have hu := e1.tm_adr List.mem_cons_self
  subst hu
  refine ⟨?_, he B F0 _ sg H1 _ e1 fun v H2 e2 => ?_⟩
  · obtain ⟨F, g, e1⟩ := e1
    obtain ⟨xs, hx, _⟩ := e1.rd_lst h0
    exact .inl ⟨rfl, xs, .inl (.inl hx)⟩
  · obtain ⟨F, g, e2⟩ := e2
    obtain ⟨xs, hx, rx⟩ := e2.rd_lst hj
    have hv := e2.tm _ List.mem_cons_self
    refine ⟨a, xs, v, rfl, rfl, hx, by rw [rpl_len rx]; exact Nat.lt_of_lt_of_le hz (by decide), k _ _ ⟨F, g, ?_⟩⟩
    exact (e2.write (o := .lst (xs ++ [v])) (n' := .lst (ds ++ [d])) hj ⟨_, upd_same, rpl_app rx ⟨v, [], rfl, hv, rfl⟩⟩).held fun p hp => List.mem_cons_of_mem _ (List.mem_cons_of_mem _ hp)
theorem q_app {j0 j : Nat} {a : Addr} {ds0 ds : List D} {d : D} {De : Ends} (ho : EvD K te ro ka (.val (.adr a)) k1) (h0 : k1[j0]? = some (a, .lst ds0)) (he : EvD K tf ro k1 (.val d) k2) (hj : k2[j]? = some (a, .lst ds)) (hz : ds.length < 100000)
    (k : Gp K B F0 ta (u De) ro (k2.set j (a, .lst (ds ++ [d])))) : Gp K B F0 ta (tSeq (tDrop (tBM K "list" rAppend te (tCons tf tNil))) u De) ro ka := g_app (De := { De with nx := u De }) ho h0 he hj hz k
/-- xs[i] = v -/
theorem g_seti {j : Nat} {a : Addr} {ds : List D} {d : D} {i : Int} {ix : Nat} {De : Ends} (he : EvD K tf ro ka (.val d) k1) (ho : EvD K te ro k1 (.val (.adr a)) k2) (hi : EvD K tg ro k2 (.val (.int i)) k3) (hj : k3[j]? = some (a, .lst ds)) (hx : ixN ds.length i = some ix)
    (k : Gp K B F0 ta De.nx ro (k3.set j (a, .lst (ds.set ix d)))) : Gp K B F0 ta (tAsg tf (gSub te tg rSetL) De) ro ka := fun sg H e => he B F0 ta sg H _ e fun v H1 e1 => ho B F0 _ sg H1 _ e1 fun u H2 e2 => hi B F0 _ sg H2 _ e2 fun i' H3 e3 => by
  have hu := e3.tm_adr (List.mem_cons_of_mem _ List.mem_cons_self)
  have hi' := e3.tm_int List.mem_cons_self
  subst hu hi'
  obtain ⟨F, g, e3⟩ := e3
  obtain ⟨xs, hxs, rx⟩ := e3.rd_lst hj
  have hv := e3.tm (v, .val d) (List.mem_cons_of_mem _ (List.mem_cons_of_mem _ List.mem_cons_self))
  refine ⟨a, xs, i, ix, rfl, rfl, hxs, by rw [rpl_len rx]; exact hx, k _ _ ⟨F, g, ?_⟩⟩
  exact (e3.write (o := .lst (xs.set ix v)) (n' := .lst (ds.set ix d)) hj ⟨_, upd_same, rpl_set ix rx hv⟩).held fun p hp => List.mem_cons_of_mem _ (List.mem_cons_of_mem _ (List.mem_cons_of_mem _ hp))
theorem q_seti {j : Nat} {a : Addr} {ds : List D} {d : D} {i : Int} {ix : Nat} {De : Ends} (he : EvD K tf ro ka (.val d) k1) (ho : EvD K te ro k1 (.val (.adr a)) k2) (hi : EvD K tg ro k2 (.val (.int i)) k3) (hj : k3[j]? = some (a, .lst ds)) (hx : ixN ds.length i = some ix)
    (k : Gp K B F0 ta (u De) ro (k3.set j (a, .lst (ds.set ix d)))) : Gp K B F0 ta (tSeq (tAsg tf (gSub te tg rSetL)) u De) ro ka := g_seti (De := { De with nx := u De }) he ho hi hj hx k

/-! ### what is walked -/
/-- wi walks through the items ws, while C holds of the cells -/
def EvI (K : PySem.W.Frag) (wi : TI) (ro : Ro) (ka : Cells) (ws : List W) (C : Cells → Prop) (ka' : Cells) : Prop := ∀ B F0 ta sg H (R : It → Hp → Prop), En K B F0 ro ka ta sg H →
  (∀ J ta' H', (∀ p ∈ ta, p ∈ ta') → En K B F0 ro ka' ta' sg H' →
    (∀ i w ro2 ka2 ta2 sg2 H2, ws[i]? = some w → C ka2 → (∀ p ∈ ta', p ∈ ta2) → En K B F0 ro2 ka2 ta2 sg2 H2 → J.go i H2 ∧ ∀ x H3, J.yld i H2 x H3 → En K B F0 ro2 ka2 ((x, w) :: ta2) sg2 H3) →
    (∀ i ro2 ka2 ta2 sg2 H2, ws.length ≤ i → C ka2 → (∀ p ∈ ta', p ∈ ta2) → En K B F0 ro2 ka2 ta2 sg2 H2 → J.stop i H2) → R J H') → wi sg H R
/-- the word between two turns -/
def Jp (K : PySem.W.Frag) (B F0 : Hp) (ta : List (V × W)) (Inv : Ro → Cells → Prop) : L2.St → Hp → Prop := fun sg H => ∃ ro ka, Inv ro ka ∧ En K B F0 ro ka ta sg H
theorem g_jp {Inv : Ro → Cells → Prop} (h : Inv ro ka) : Gp K B F0 ta (Jp K B F0 ta Inv) ro ka := fun sg H e => ⟨ro, ka, h, e⟩
theorem g_for {wi : TI} {ws : List W} {C : Cells → Prop} {g : TG} {tb : TS} {De : Ends} (h : EvI K wi ro ka ws C k1) (Inv : Nat → Ro → Cells → Prop) (h0 : Inv 0 ro k1) (hC : ∀ i ro2 ka2, Inv i ro2 ka2 → C ka2)
    (hs : ∀ i w ro2 ka2, ws[i]? = some w → Inv i ro2 ka2 → ∀ ta', Gp K B F0 ta' (fun sg H => ∀ x, En K B F0 ro2 ka2 ((x, w) :: ta') sg H → g x sg H fun sg2 H2 => tb { De with nx := Jp K B F0 ta' (Inv (i + 1)), ct := Jp K B F0 ta' (Inv (i + 1)), bk := De.nx } sg2 H2) ro2 ka2)
    (hd : ∀ ro2 ka2 ta', Inv ws.length ro2 ka2 → (∀ p ∈ ta, p ∈ ta') → Gp K B F0 ta' De.nx ro2 ka2) : Gp K B F0 ta (tFor wi g tb De) ro ka := fun sg H e =>
  h B F0 ta sg H _ e fun J ta' H1 hta e1 hgo hst => by
    refine ⟨fun i m sg H => m = ws.length - i ∧ i ≤ ws.length ∧ Jp K B F0 ta' (Inv i) sg H, ⟨ws.length, by simp, Nat.zero_le _, ro, k1, h0, e1⟩, ?_⟩
    rintro i m sg2 H2 ⟨rfl, hi, ro2, ka2, inv, e2⟩
    by_cases hlt : i < ws.length
    · obtain ⟨g1, g2⟩ := hgo i ws[i] ro2 ka2 ta' sg2 H2 (List.getElem?_eq_getElem hlt) (hC i ro2 ka2 inv) (fun p hp => hp) e2
      refine .inr ⟨g1, Jp K B F0 ta' (Inv (i + 1)), fun sg' H' q => ⟨ws.length - (i + 1), by omega, rfl, hlt, q⟩, fun x H3 y => ?_⟩
      have e3 := g2 x H3 y
      exact hs i ws[i] ro2 ka2 (List.getElem?_eq_getElem hlt) inv ta' sg2 H3 e3.pop x e3
    · have ei : i = ws.length := by omega
      subst ei
      exact .inl ⟨hst _ ro2 ka2 ta' sg2 H2 (Nat.le_refl _) (hC _ ro2 ka2 inv) (fun p hp => hp) e2, hd ro2 ka2 ta' inv hta sg2 H2 e2⟩
/-- .. the target a name -/
theorem g_forn {wi : TI} {ws : List W} {C : Cells → Prop} {j : Nat} {tb : TS} {De : Ends} (h : EvI K wi ro ka ws C k1) (Inv : Nat → Ro → Cells → Prop) (h0 : Inv 0 ro k1) (hC : ∀ i ro2 ka2, Inv i ro2 ka2 → C ka2)
    (hs : ∀ i w ro2 ka2 ta', ws[i]? = some w → Inv i ro2 ka2 → Gp K B F0 ta' (tb { De with nx := Jp K B F0 ta' (Inv (i + 1)), ct := Jp K B F0 ta' (Inv (i + 1)), bk := De.nx }) (ro2.set j (some w)) ka2)
    (hd : ∀ ro2 ka2 ta', Inv ws.length ro2 ka2 → (∀ p ∈ ta, p ∈ ta') → Gp K B F0 ta' De.nx ro2 ka2) : Gp K B F0 ta (tFor wi (gName j) tb De) ro ka :=
  g_for h Inv h0 hC (fun i w ro2 ka2 hw inv ta' sg H e x ex => hs i w ro2 ka2 ta' hw inv _ _ (ex.set j)) hd
theorem q_forn {wi : TI} {ws : List W} {C : Cells → Prop} {j : Nat} {tb : TS} {De : Ends} (h : EvI K wi ro ka ws C k1) (Inv : Nat → Ro → Cells → Prop) (h0 : Inv 0 ro k1) (hC : ∀ i ro2 ka2, Inv i ro2 ka2 → C ka2)
    (hs : ∀ i w ro2 ka2 ta', ws[i]? = some w → Inv i ro2 ka2 → Gp K B F0 ta' (tb { De with nx := Jp K B F0 ta' (Inv (i + 1)), ct := Jp K B F0 ta' (Inv (i + 1)), bk := u De }) (ro2.set j (some w)) ka2)
    (hd : ∀ ro2 ka2 ta', Inv ws.length ro2 ka2 → (∀ p ∈ ta, p ∈ ta') → Gp K B F0 ta' (u De) ro2 ka2) : Gp K B F0 ta (tSeq (tFor wi (gName j) tb) u De) ro ka := g_forn (De := { De with nx := u De }) h Inv h0 hC hs hd
/-- while: a word and a number that falls -/
theorem g_while {tb : TS} {De : Ends} (Inv : Nat → Ro → Cells → Prop) (m0 : Nat) (h0 : Inv m0 ro ka)
    (hs : ∀ m ro2 ka2, Inv m ro2 ka2 → ∃ b k2, EvT K tt ro2 ka2 b k2 ∧ (b = true → Gp K B F0 ta (tb { De with nx := Jp K B F0 ta (fun r k => ∃ m', m' < m ∧ Inv m' r k), ct := Jp K B F0 ta (fun r k => ∃ m', m' < m ∧ Inv m' r k), bk := De.nx }) ro2 k2) ∧ (b = false → Gp K B F0 ta De.nx ro2 k2)) :
    Gp K B F0 ta (tWhile tt tb De) ro ka := fun sg H e => by
  refine ⟨fun m sg H => Jp K B F0 ta (Inv m) sg H, ⟨m0, ro, ka, h0, e⟩, fun m sg2 H2 ⟨ro2, ka2, inv, e2⟩ => ?_⟩
  obtain ⟨b, k2, ht, h1, h2⟩ := hs m ro2 ka2 inv
  refine ht B F0 ta sg2 H2 _ e2 fun H3 e3 => ?_
  cases b with
  | true => exact ⟨_, fun sg' H' ⟨r, k, ⟨m', hm, inv'⟩, e'⟩ => ⟨m', hm, r, k, inv', e'⟩, h1 rfl _ _ e3⟩
  | false => exact h2 rfl _ _ e3
theorem q_while {tb : TS} {De : Ends} (Inv : Nat → Ro → Cells → Prop) (m0 : Nat) (h0 : Inv m0 ro ka)
    (hs : ∀ m ro2 ka2, Inv m ro2 ka2 → ∃ b k2, EvT K tt ro2 ka2 b k2 ∧ (b = true → Gp K B F0 ta (tb { De with nx := Jp K B F0 ta (fun r k => ∃ m', m' < m ∧ Inv m' r k), ct := Jp K B F0 ta (fun r k => ∃ m', m' < m ∧ Inv m' r k), bk := u De }) ro2 k2) ∧ (b = false → Gp K B F0 ta (u De) ro2 k2)) :
    Gp K B F0 ta (tSeq (tWhile tt tb) u De) ro ka := g_while (De := { De with nx := u De }) Inv m0 h0 hs

theorem ei_range1 {tr : TA} {m : Int} (h : EvA K tr ro ka [.val (.int m)] k1) (hm : m ≤ 1000000) (hm0 : -1000000 ≤ m) : EvI K (iRng1 tr) ro ka ((List.range m.toNat).map fun i : Nat => W.val (.int (i : Int))) (fun _ => True) k1 := fun B F0 ta sg H R e q =>
  h B F0 ta sg H _ e fun vs H1 hl e1 => by
    match vs, hl with
    | [v], _ =>
      have hv := e1.tm_int (v := v) (i := m) List.mem_cons_self
      subst hv
      refine ⟨m, rfl, by omega, by omega, q _ ta H1 (fun p hp => hp) (e1.held fun p hp => List.mem_append_right _ hp) (fun i w ro2 ka2 ta2 sg2 H2 hw _ _ e2 => ?_) fun i ro2 ka2 ta2 sg2 H2 hi _ _ _ => ?_⟩
      · rw [List.getElem?_map] at hw
        cases hi : (List.range m.toNat)[i]? with
        | none => rw [hi] at hw; cases hw
        | some j =>
          rw [hi] at hw
          obtain ⟨hlt, hj⟩ := List.getElem?_eq_some_iff.mp hi
          rw [List.getElem_range] at hj
          subst hj
          cases hw
          refine ⟨by show i < _; simpa using hlt, fun x H3 ⟨e3, ex⟩ => ?_⟩
          subst e3 ex
          exact e2.push_imm fun _ => by
            show V.int (0 + (i : Int)) = V.int (i : Int)
            rw [Int.zero_add]
      · rw [List.length_map, List.length_range] at hi
        exact hi
end

/-! ### any sequence walked -/
/-- lists, tuples, texts -/
def iSeq (K : PySem.W.Frag) (tl : TE) : TI := fun sg H R => iList K tl sg H R ∨ iTup K tl sg H R ∨ iStr tl sg H R
theorem pi_seq {X : Cx} {tg : Expr} {l : Expr} {tl : TE} (hl : PE X l tl) : PI X tg l (iSeq X.K tl) :=
  ⟨fun pins s sg H R I h => h.elim ((pi_list hl).run pins s sg H R I) fun h => h.elim ((pi_tup hl).run pins s sg H R I) ((pi_str hl).run pins s sg H R I)⟩
section
variable {K : PySem.W.Frag} {ro : Ro} {ka k1 : Cells} {te : TE} {w : W}
/-- the cell that is walked stays -/
def Stay (w : W) (ds : List D) (ka : Cells) : Prop := match w with
  | .val (.adr a) => (a, Nd.lst ds) ∈ ka
  | _ => True
theorem Lk.mono {ka : Cells} {t b : Bool} {ds : List D} (l : Lk ka w t ds b) (ka2 : Cells) (h : Stay w ds ka2) : Lk ka2 w t ds b := by
  cases l with
  | vl => exact .vl
  | vt => exact .vt
  | wl => exact .wl
  | wt => exact .wt
  | ce j hj =>
    obtain ⟨j2, h2⟩ := List.getElem?_of_mem h
    exact .ce j2 h2
theorem ei_seq {t b : Bool} {ds : List D} (h : EvD K te ro ka w k1) (l : Lk k1 w t ds b) : EvI K (iSeq K te) ro ka (ds.map (part b)) (Stay w ds) k1 := fun B F0 ta sg H R e q => by
  have again : ∀ (a : Addr) ro2 ka2 ta2 sg2 H2, Stay w ds ka2 → (V.ref a, w) ∈ ta2 → En K B F0 ro2 ka2 ta2 sg2 H2 → ∃ F ys, EnF K B F ro2 ka2 ta2 sg2 H2 ∧ Gr B F0 F ∧ SqB K t H2 a ys ∧ RpL K (if b then uni B F else F) ds ys := fun a ro2 ka2 ta2 sg2 H2 hs hm e2 => by
    obtain ⟨F, g, e2⟩ := e2
    obtain ⟨a', ys, e', s2, r2⟩ := (l.mono ka2 hs).get e2 (e2.tm _ hm)
    cases e'
    exact ⟨F, ys, e2, g, s2, r2⟩
  have item : ∀ {i : Nat} {w2 : W} {F : Hp} {ys : List V}, (ds.map (part b))[i]? = some w2 → RpL K (if b then uni B F else F) ds ys → ∃ y, ys[i]? = some y ∧ WOk K B F y w2 := fun {i w2 F ys} hw r2 => by
    rw [List.getElem?_map] at hw
    cases hd : ds[i]? with
    | none => rw [hd] at hw; cases hw
    | some d =>
      rw [hd] at hw
      cases hw
      obtain ⟨y, hy, ry⟩ := rpl_get r2 hd
      exact ⟨y, hy, wok_part b ry⟩
  cases t with
  | true =>
    refine .inr (.inl (h B F0 ta sg H _ e fun v H1 e1 => ?_))
    obtain ⟨F, g, ef⟩ := id e1
    obtain ⟨a, xs, rfl, s1, r1⟩ := l.get ef (ef.tm _ List.mem_cons_self)
    refine ⟨a, rfl, ⟨xs, s1⟩, q _ ((.ref a, w) :: ta) H1 (fun p hp => List.mem_cons_of_mem _ hp) e1 (fun i w2 ro2 ka2 ta2 sg2 H2 hw hs hm e2 => ?_) fun i ro2 ka2 ta2 sg2 H2 hi hs hm e2 => ?_⟩
    · obtain ⟨F2, ys, ef2, g2, s2, r2⟩ := again a ro2 ka2 ta2 sg2 H2 hs (hm _ List.mem_cons_self) e2
      obtain ⟨y, hy, wy⟩ := item hw r2
      refine ⟨⟨ys, y, s2, hy⟩, fun x H3 ⟨e3, ex⟩ => ?_⟩
      subst e3
      have h5 := ex ys s2
      rw [hy] at h5
      cases h5
      exact ⟨F2, g2, ef2.push wy⟩
    · obtain ⟨F2, ys, ef2, g2, s2, r2⟩ := again a ro2 ka2 ta2 sg2 H2 hs (hm _ List.mem_cons_self) e2
      refine ⟨ys, s2, ?_⟩
      rw [rpl_len r2]
      rwa [List.length_map] at hi
  | false =>
    refine .inl (h B F0 ta sg H _ e fun v H1 e1 => ?_)
    obtain ⟨F, g, ef⟩ := id e1
    obtain ⟨a, xs, rfl, s1, r1⟩ := l.get ef (ef.tm _ List.mem_cons_self)
    refine ⟨a, rfl, ⟨xs, .inl s1⟩, q _ ((.ref a, w) :: ta) H1 (fun p hp => List.mem_cons_of_mem _ hp) e1 (fun i w2 ro2 ka2 ta2 sg2 H2 hw hs hm e2 => ?_) fun i ro2 ka2 ta2 sg2 H2 hi hs hm e2 => ?_⟩
    · obtain ⟨F2, ys, ef2, g2, s2, r2⟩ := again a ro2 ka2 ta2 sg2 H2 hs (hm _ List.mem_cons_self) e2
      obtain ⟨y, hy, wy⟩ := item hw r2
      refine ⟨⟨ys, y, .inl s2, hy⟩, fun x H3 ⟨e3, ex⟩ => ?_⟩
      subst e3
      have h5 := ex ys (.inl s2)
      rw [hy] at h5
      cases h5
      exact ⟨F2, g2, ef2.push wy⟩
    · obtain ⟨F2, ys, ef2, g2, s2, r2⟩ := again a ro2 ka2 ta2 sg2 H2 hs (hm _ List.mem_cons_self) e2
      refine ⟨ys, .inl s2, ?_⟩
      rw [rpl_len r2]
      rwa [List.length_map] at hi
theorem ei_str {s : Str} (h : EvD K te ro ka (.val (.str s)) k1) : EvI K (iSeq K te) ro ka (s.cps.toList.map fun c => W.val (.str ⟨#[c]⟩)) (fun _ => True) k1 := fun B F0 ta sg H R e q =>
  .inr (.inr (h B F0 ta sg H _ e fun v H1 e1 => by
    have hv := e1.tm_str List.mem_cons_self
    subst hv
    refine ⟨s, rfl, q _ ta H1 (fun p hp => hp) e1.pop (fun i w2 ro2 ka2 ta2 sg2 H2 hw _ hm e2 => ?_) fun i ro2 ka2 ta2 sg2 H2 hi _ hm e2 => ?_⟩
    · rw [List.getElem?_map] at hw
      cases hd : s.cps.toList[i]? with
      | none => rw [hd] at hw; cases hw
      | some c =>
        rw [hd] at hw
        cases hw
        have hc : s.cps[i]? = some c := by simpa using hd
        refine ⟨(Array.getElem?_eq_some_iff.mp hc).1, fun x H3 ⟨e3, c', hc', ex⟩ => ?_⟩
        subst e3 ex
        rw [hc] at hc'
        cases hc'
        exact e2.push_imm fun _ => rfl
    · show s.cps.size ≤ i
      simpa using hi))
end
end DL

/-! DT: frames, calls, comprehensions by data (own work). -/
namespace DL
open PySem L2

section
variable {K : PySem.W.Frag} {B B' F F' F0 : Hp} {ro : Ro} {ka k1 k2 k3 kr : Cells} {ta : List (V × W)} {sg : L2.St} {H H' : Hp} {te tf tg : TE} {tl th : TO} {tr : TA} {tt : TT} {w x y z : W} {n : Nd}

/-- H without the cells of kf -/
def off (H : Hp) (kf : Cells) : Hp := fun a => if a ∈ kf.map (·.1) then none else H a
theorem off_in {kf : Cells} {a : Addr} (h : a ∈ kf.map (·.1)) : off H kf a = none := if_pos h
theorem off_out {kf : Cells} {a : Addr} (h : a ∉ kf.map (·.1)) : off H kf a = H a := if_neg h
theorem off_some {kf : Cells} {a : Addr} {o : HO} (h : off H kf a = some o) : a ∉ kf.map (·.1) ∧ H a = some o := by
  unfold off at h
  split at h
  · cases h
  · rename_i q
    exact ⟨q, h⟩
theorem EnF.sub_off (e : EnF K B F ro ka ta sg H) {kf : Cells} (hk : ∀ p ∈ kf, p ∈ ka) : Sub B (off H kf) := fun a o h => by
  have na : a ∉ kf.map (·.1) := fun hm => by
    obtain ⟨p, hp, rfl⟩ := List.mem_map.mp hm
    have := (e.ce p (hk p hp)).2.1
    rw [this] at h
    cases h
  rw [off_out na]
  exact e.fr a o h
theorem uni_subB {B B' F : Hp} (h : Sub B B') : Sub (uni B F) (uni B' F) := fun a u q => by
  unfold uni at q ⊢
  cases hf : F a with
  | some o => rw [hf] at q; exact q
  | none =>
    rw [hf] at q
    cases hb : B a with
    | none => rw [hb] at q; cases q
    | some o => rw [hb] at q; rw [h a o hb]; exact q
theorem wok_subB (n : Nz F) (h : Sub B B') {v : V} {w : W} (q : WOk K B F v w) : WOk K B' F v w := by
  cases w with
  | val d => exact q
  | vw d => exact Rp.mono (uni_subB h).exz (uni_nz n) d v q
/-- the part of a state that a part of the text works on: the cells kf, all else as it stands -/
theorem EnF.into (e : EnF K B F ro (ka ++ kr) ta sg H) {ro' : Ro} {sg' : L2.St} {ta' : List (V × W)} (hl : sg'.length = ro'.length) (hs : ∀ (i : Nat) w, ro'[i]? = some (some w) → ∃ v, sg'[i]? = some (some v) ∧ WOk K B F v w) (ht : ∀ p ∈ ta', p ∈ ta) :
    EnF K (off H ka) F ro' ka ta' sg' H := by
  have hsub : Sub B (off H ka) := e.sub_off fun p hp => List.mem_append_left _ hp
  have nd := e.nd
  rw [List.map_append, List.nodup_append] at nd
  refine ⟨e.nz, e.fz, fun a o h => (off_some h).2, nd.1, fun p hp => ?_, hl, fun i w h => ?_, fun p hp => wok_subB e.nz hsub (e.tm p (ht p hp))⟩
  · obtain ⟨h1, h2, h3⟩ := e.ce p (List.mem_append_left _ hp)
    exact ⟨h1, off_in (List.mem_map.mpr ⟨p, hp, rfl⟩), h3⟩
  · obtain ⟨v, h1, h2⟩ := hs i w h
    exact ⟨v, h1, wok_subB e.nz hsub h2⟩
/-- .. and back -/
theorem EnF.back (e : EnF K B F ro (ka ++ kr) ta sg H) (g : Gr (off H ka) F F') {ro' : Ro} {sg' : L2.St} {ta' : List (V × W)} (e' : EnF K (off H ka) F' ro' k2 ta' sg' H') {tb : List (V × W)} (hb : ∀ p ∈ tb, p ∈ ta ∨ ∃ d, p.2 = .val d ∧ p ∈ ta') :
    Gr B F F' ∧ EnF K B F' ro (k2 ++ kr) tb sg H' := by
  have hsub : Sub B (off H ka) := e.sub_off fun p hp => List.mem_append_left _ hp
  have gg : Gr B F F' := ⟨g.sub, fun a h1 h2 => g.off a h1 fun q => by
    cases hb2 : B a with
    | none => exact h2 hb2
    | some o => rw [hsub a o hb2] at q; cases q⟩
  have nd := e.nd
  rw [List.map_append, List.nodup_append] at nd
  -- the cells that were left stand off what was worked on
  have left : ∀ p ∈ kr, off H ka p.1 ≠ none ∧ H' p.1 = H p.1 := fun p hp => by
    obtain ⟨h1, h2, h3⟩ := e.ce p (List.mem_append_right _ hp)
    have hn : p.1 ∉ ka.map (·.1) := fun hm => nd.2.2 _ hm _ (List.mem_map.mpr ⟨p, hp, rfl⟩) rfl
    cases q : H p.1 with
    | none => exact absurd q (ndok_ne h3)
    | some o =>
      have ho : off H ka p.1 = some o := by rw [off_out hn]; exact q
      exact ⟨by rw [ho]; exact fun z => (by cases z), e'.fr _ _ ho⟩
  refine ⟨gg, e'.nz, e'.fz, hsub.trans e'.fr, ?_, fun p hp => ?_, e.ln, fun i w h => ?_, fun p hp => ?_⟩
  · rw [List.map_append, List.nodup_append]
    refine ⟨e'.nd, nd.2.1, fun a ha b hb => ?_⟩
    obtain ⟨p, hp, rfl⟩ := List.mem_map.mp ha
    obtain ⟨q, hq, rfl⟩ := List.mem_map.mp hb
    intro z
    exact (left q hq).1 (z ▸ (e'.ce p hp).2.1)
  · rcases List.mem_append.mp hp with hp | hp
    · obtain ⟨h1, h2, h3⟩ := e'.ce p hp
      refine ⟨h1, ?_, h3⟩
      cases q : B p.1 with
      | none => rfl
      | some o => rw [hsub _ _ q] at h2; cases h2
    · obtain ⟨h1, h2, h3⟩ := e.ce p (List.mem_append_right _ hp)
      obtain ⟨l1, l2⟩ := left p hp
      exact ⟨g.off _ h1 l1, h2, ndok_at l2 (ndok_gr e.nz gg h3)⟩
  · obtain ⟨v, h1, h2⟩ := e.sl i w h
    exact ⟨v, h1, wok_gr e.nz gg h2⟩
  · rcases hb p hp with q | ⟨d, hd, q⟩
    · exact wok_gr e.nz gg (e.tm p q)
    · have h2 := e'.tm p q
      rw [hd] at h2 ⊢
      exact h2

/-! ### frames -/
theorem EvD.fr {d : D} (h : EvD K te ro ka (.val d) k2) (kr : Cells) : EvD K te ro (ka ++ kr) (.val d) (k2 ++ kr) := fun B F0 ta sg H Q e q => by
  obtain ⟨F, g, e⟩ := e
  refine h (off H ka) F ta sg H Q ⟨F, Gr.refl _ _, e.into e.ln e.sl fun p hp => hp⟩ fun v H' ⟨F', g', e'⟩ => ?_
  obtain ⟨g2, e2⟩ := e.back g' e' (tb := (v, .val d) :: ta) fun p hp => by
    rcases List.mem_cons.mp hp with rfl | hp
    · exact .inr ⟨d, rfl, List.mem_cons_self⟩
    · exact .inl hp
  exact q v H' ⟨F', g.trans g2, e2⟩
theorem EvT.fr {b : Bool} (h : EvT K tt ro ka b k2) (kr : Cells) : EvT K tt ro (ka ++ kr) b (k2 ++ kr) := fun B F0 ta sg H Q e q => by
  obtain ⟨F, g, e⟩ := e
  refine h (off H ka) F ta sg H Q ⟨F, Gr.refl _ _, e.into e.ln e.sl fun p hp => hp⟩ fun H' ⟨F', g', e'⟩ => ?_
  obtain ⟨g2, e2⟩ := e.back g' e' (tb := ta) fun p hp => .inl hp
  exact q H' ⟨F', g.trans g2, e2⟩
theorem En.perm (e : En K B F0 ro ka ta sg H) (h : k1.Perm ka) : En K B F0 ro k1 ta sg H :=
  let ⟨F, g, q⟩ := e
  ⟨F, g, q.perm h⟩
theorem EvN.fr {m : Nd} (h : EvN K te ro ka m k2) (kr : Cells) : EvN K te ro (ka ++ kr) m (k2 ++ kr) := fun B F0 ta sg H Q e q => by
  obtain ⟨F, g, e⟩ := e
  refine h (off H ka) F ta sg H Q ⟨F, Gr.refl _ _, e.into e.ln e.sl fun p hp => hp⟩ fun a H' ⟨F', g', e'⟩ => ?_
  obtain ⟨g2, e2⟩ := e.back g' e' (tb := ta) fun p hp => .inl hp
  refine q a H' ⟨F', g.trans g2, e2.perm ?_⟩
  rw [List.append_assoc, List.append_assoc]
  exact List.Perm.append_left _ List.perm_append_comm

/-! ### calls -/
/-- a call that comes back -/
theorem sp_ret {C : Ct} {ws : List W} {out : Out → Cells → Prop} {vs : List V} {E : XK} {Q : VK} {d : D} (e : En K B F0 ro (ka ++ kr) (vs.zip ws ++ ta) sg H) (hl : vs.length = ws.length) (hC : C ws ka out) (ho : ∀ o k, out o k → o = .ret d ∧ k = k2)
    (q : ∀ v H', En K B F0 ro (k2 ++ kr) ((v, .val d) :: ta) sg H' → Q v H') : spC K C vs H Q E := by
  obtain ⟨F, g, e⟩ := e
  refine ⟨off H ka, F, ws, ka, out, hC, hl, ⟨F, Gr.refl _ _, e.into (ro' := []) (sg' := []) (ta' := vs.zip ws) rfl (fun i w h => by simp at h) fun p hp => List.mem_append_left _ hp⟩, fun d' k v H' o ⟨F', g', e'⟩ => ?_, fun C fs k dx H' o _ => ?_, fun C k H' o _ => ?_⟩
  · obtain ⟨hd, rfl⟩ := ho _ _ o
    cases hd
    obtain ⟨g2, e2⟩ := e.back g' e' (tb := (v, .val d) :: ta) fun p hp => by
      rcases List.mem_cons.mp hp with rfl | hp
      · exact .inr ⟨d, rfl, List.mem_cons_self⟩
      · exact .inl (List.mem_append_right _ hp)
    exact q v H' ⟨F', g.trans g2, e2⟩
  · have := (ho _ _ o).1
    cases this
  · have := (ho _ _ o).1
    cases this
theorem ev_call {C : Ct} {ws : List W} {out : Out → Cells → Prop} {E : XK} {d : D} (ha : EvA K tr ro ka ws k1) (hC : C ws k1 out) (ho : ∀ o k, out o k → o = .ret d ∧ k = k2) : EvD K (tCall (spC K C) [] E tr) ro ka (.val d) k2 := fun B F0 ta sg H Q e q =>
  ha B F0 ta sg H _ e fun vs H1 hl e1 => by
    rw [List.append_nil]
    have e1' : En K B F0 ro (k1 ++ []) (vs.zip ws ++ ta) sg H1 := by rw [List.append_nil]; exact e1
    exact sp_ret e1' hl hC ho fun v H' e2 => q v H' (by rw [List.append_nil] at e2; exact e2)
/-- .. the cells that it works on ahead of others -/
theorem ev_callF {C : Ct} {ws : List W} {out : Out → Cells → Prop} {E : XK} {d : D} (kr : Cells) (ha : EvA K tr ro ka ws (k1 ++ kr)) (hC : C ws k1 out) (ho : ∀ o k, out o k → o = .ret d ∧ k = k2) : EvD K (tCall (spC K C) [] E tr) ro ka (.val d) (k2 ++ kr) := fun B F0 ta sg H Q e q =>
  ha B F0 ta sg H _ e fun vs H1 hl e1 => by
    rw [List.append_nil]
    exact sp_ret e1 hl hC ho q
/-! ### comprehensions -/
def wipeR (ro : Ro) : List Nat → Ro
  | [] => ro
  | v :: vs => (wipeR ro vs).set v none
theorem wipe_en : ∀ {vs : List Nat}, EnF K B F ro ka ta sg H → EnF K B F (wipeR ro vs) ka ta (wipe sg vs) H
  | [], e => e
  | v :: vs, e => by
    have e1 := wipe_en (vs := vs) e
    refine e1.frame (by show (List.set _ _ _).length = (List.set _ _ _).length; rw [List.length_set, List.length_set, e1.ln]) fun i w h => ?_
    show ∃ v', ((wipe sg vs).set v none)[i]? = some (some v') ∧ _
    have h' : ((wipeR ro vs).set v none)[i]? = some (some w) := h
    by_cases hi : v = i
    · subst hi
      have hlt : v < (wipeR ro vs).length := by
        have := (List.getElem?_eq_some_iff.mp h').1
        rwa [List.length_set] at this
      rw [List.getElem?_set_self hlt] at h'
      cases h'
    · rw [List.getElem?_set_ne hi] at h' ⊢
      exact e1.sl i w h'
theorem wipe_set (sg : L2.St) (vs : List Nat) {j : Nat} (hj : j ∈ vs) (v : V) : wipe ((wipe sg vs).set j (some v)) vs = wipe sg vs := by
  have key : ∀ (vs : List Nat) (s t : L2.St), s.length = t.length → (∀ i : Nat, i ∉ vs → s[i]? = t[i]?) → wipe s vs = wipe t vs := by
    intro vs
    induction vs with
    | nil =>
      intro s t hl h
      exact List.ext_getElem? fun i => h i (by simp)
    | cons a vs ih =>
      intro s t hl h
      show (wipe s vs).set a none = (wipe t vs).set a none
      apply List.ext_getElem?
      intro i
      by_cases hi : a = i
      · subst hi
        rw [List.getElem?_set, List.getElem?_set, wipe_length, wipe_length, hl, if_pos rfl, if_pos rfl]
      · rw [List.getElem?_set_ne hi, List.getElem?_set_ne hi]
        have gen : ∀ (vs : List Nat) (s t : L2.St), s.length = t.length → ∀ i : Nat, s[i]? = t[i]? → (wipe s vs)[i]? = (wipe t vs)[i]? := by
          intro vs
          induction vs with
          | nil => intro s t _ i h; exact h
          | cons b vs ih2 =>
            intro s t hl i h
            show ((wipe s vs).set b none)[i]? = ((wipe t vs).set b none)[i]?
            rw [List.getElem?_set, List.getElem?_set, wipe_length, wipe_length, hl, ih2 s t hl i h]
        by_cases hv : i ∈ vs
        · have wn : ∀ (vs : List Nat) (s : L2.St) (i : Nat), i ∈ vs → i < s.length → (wipe s vs)[i]? = some none := by
            intro vs
            induction vs with
            | nil => intro s i h; simp at h
            | cons b vs ih2 =>
              intro s i h hlt
              show ((wipe s vs).set b none)[i]? = some none
              by_cases hb : b = i
              · subst hb
                rw [List.getElem?_set_self (by rw [wipe_length]; exact hlt)]
              · rw [List.getElem?_set_ne hb]
                rcases List.mem_cons.mp h with q | q
                · exact absurd q.symm hb
                · exact ih2 s i q hlt
          by_cases hlt : i < s.length
          · rw [wn vs s i hv hlt, wn vs t i hv (hl ▸ hlt)]
          · rw [List.getElem?_eq_none (by rw [wipe_length]; omega), List.getElem?_eq_none (by rw [wipe_length]; omega)]
        · exact gen vs s t hl i (h i (by simp [Ne.symm hi, hv]))
  have idem : ∀ (vs : List Nat) (s : L2.St), wipe (wipe s vs) vs = wipe s vs := fun vs s => key vs _ _ (wipe_length _ _) fun i hi => by
    have gen : ∀ (us : List Nat) (s : L2.St), i ∉ us → (wipe s us)[i]? = s[i]? := by
      intro us
      induction us with
      | nil => intro s _; rfl
      | cons b us ih2 =>
        intro s h
        show ((wipe s us).set b none)[i]? = s[i]?
        rw [List.getElem?_set_ne (fun q => h (by simp [q])), ih2 s fun q => h (List.mem_cons_of_mem _ q)]
    exact gen vs s hi
  have e1 : wipe ((wipe sg vs).set j (some v)) vs = wipe (wipe sg vs) vs := key vs _ _ (by rw [List.length_set]) fun i hi => by
    have hne : j ≠ i := fun q => hi (q ▸ hj)
    exact List.getElem?_set_ne hne
  rw [e1, idem]
/-- a new cell of which R tells -/
def EvNR (K : PySem.W.Frag) (te : TE) (ro : Ro) (ka : Cells) (R : Nd → Cells → Prop) : Prop := ∀ B F0 ta sg H (Q : VK), En K B F0 ro ka ta sg H → (∀ n k a H', R n k → En K B F0 ro (k ++ [(a, n)]) ta sg H' → Q (.ref a) H') → te sg H Q
/-- [e for x in .. if ..]: what is told of the list -/
theorem evr_lc {wi : TI} {ws : List W} {C : Cells → Prop} {j : Nat} {vs : List Nat} (h : EvI K wi ro ka ws C k1) (hj : j ∈ vs) (hn : ws.length ≤ 1000000) (Inv : Nat → List D → Cells → Prop) (h0 : Inv 0 [] k1) (hC : ∀ i acc k, Inv i acc k → C k ∧ ∀ x, C (k ++ [x]))
    (hs : ∀ i w acc k, ws[i]? = some w → Inv i acc k → (∃ k2, EvT K tt ((wipeR ro vs).set j (some w)) k false k2 ∧ Inv (i + 1) acc k2) ∨ ∃ k2 k3 d, EvT K tt ((wipeR ro vs).set j (some w)) k true k2 ∧ EvD K te ((wipeR ro vs).set j (some w)) k2 (.val d) k3 ∧ Inv (i + 1) (acc ++ [d]) k3)
    : EvNR K (tLc wi (gName j) tt te vs) ro ka (fun n k => ∃ acc, n = .lst acc ∧ Inv ws.length acc k) := fun B F0 ta sg H Q e q =>
  h B F0 ta sg H _ e fun J ta' H1 hta e1 hgo hst => fun Dl hD => by
    -- the word: the list so far is the last cell
    let P : Nat → Hp → Prop := fun i H => ∃ acc k, Inv i acc k ∧ acc.length ≤ i ∧ En K B F0 ro (k ++ [(Dl, .lst acc)]) ta' sg H
    have p0 : P 0 (upd H1 Dl (.lst [])) := by
      obtain ⟨F, g, e1⟩ := e1
      exact ⟨[], k1, h0, Nat.le_refl _, F, g, e1.cell (o := .lst []) hD (n := .lst []) ⟨[], upd_same, rfl⟩⟩
    refine ⟨fun i m H => m = ws.length - i ∧ i ≤ ws.length ∧ P i H, ⟨ws.length, by simp, Nat.zero_le _, p0⟩, ?_⟩
    rintro i m H2 ⟨rfl, hi, acc, k, inv, hlen, e2⟩
    by_cases hlt : i < ws.length
    · have hw := List.getElem?_eq_getElem hlt
      obtain ⟨g1, g2⟩ := hgo i ws[i] ro (k ++ [(Dl, .lst acc)]) ta' sg H2 hw ((hC i acc k inv).2 _) (fun p hp => hp) e2
      refine .inr ⟨g1, P (i + 1), fun H' p => ⟨ws.length - (i + 1), by omega, rfl, hlt, p⟩, fun x H3 y => ?_⟩
      have e3 := g2 x H3 y
      refine ⟨wipe_set sg vs hj x, ?_⟩
      -- within the block
      have e4 : En K B F0 ((wipeR ro vs).set j (some ws[i])) (k ++ [(Dl, .lst acc)]) ta' ((wipe sg vs).set j (some x)) H3 := by
        obtain ⟨F, g, e3⟩ := e3
        exact ⟨F, g, ((wipe_en (vs := vs) e3).set (e3.tm _ List.mem_cons_self) j).held fun p hp => List.mem_cons_of_mem _ hp⟩
      -- and back out of it
      have out : ∀ {k : Cells} {ta2 : List (V × W)} {H : Hp}, (∃ F, Gr B F0 F ∧ EnF K B F ((wipeR ro vs).set j (some ws[i])) k ta2 ((wipe sg vs).set j (some x)) H ∧ ∀ (a : Nat) w, ro[a]? = some (some w) → ∃ v, sg[a]? = some (some v) ∧ WOk K B F v w) → En K B F0 ro k ta2 sg H := fun ⟨F, g, q, hs⟩ => ⟨F, g, q.frame (by obtain ⟨_, _, e0⟩ := e; exact e0.ln) hs⟩
      obtain ⟨F3, gF3, eF3⟩ := e3
      have slots : ∀ {F : Hp}, Gr B F3 F → ∀ (a : Nat) w, ro[a]? = some (some w) → ∃ v, sg[a]? = some (some v) ∧ WOk K B F v w := fun {F} g a w ha => by
        obtain ⟨v, h1, h2⟩ := eF3.sl a w ha
        exact ⟨v, h1, wok_gr eF3.nz g h2⟩
      have e4' : En K B F3 ((wipeR ro vs).set j (some ws[i])) (k ++ [(Dl, .lst acc)]) ta' ((wipe sg vs).set j (some x)) H3 :=
        ⟨F3, Gr.refl _ _, ((wipe_en (vs := vs) eF3).set (eF3.tm _ List.mem_cons_self) j).held fun p hp => List.mem_cons_of_mem _ hp⟩
      rcases hs i ws[i] acc k hw inv with ⟨k2, t1, inv2⟩ | ⟨k2, k3, d, t1, t2, inv2⟩
      · refine t1.fr [(Dl, .lst acc)] B F3 ta' _ H3 _ e4' fun H4 ⟨F4, g4, e5⟩ => ?_
        exact ⟨acc, k2, inv2, Nat.le_succ_of_le hlen, out ⟨F4, gF3.trans g4, e5, slots g4⟩⟩
      · refine t1.fr [(Dl, .lst acc)] B F3 ta' _ H3 _ e4' fun H4 e5 => ?_
        refine t2.fr [(Dl, .lst acc)] B F3 ta' _ H4 _ e5 fun v H5 ⟨F5, g5, e6⟩ => ?_
        have hx : (k3 ++ [(Dl, Nd.lst acc)])[k3.length]? = some (Dl, Nd.lst acc) := by simp
        obtain ⟨xs, h1, h2⟩ := e6.rd_lst hx
        have hv := e6.tm _ List.mem_cons_self
        have e7 := e6.write (o := .lst (xs ++ [v])) (n' := .lst (acc ++ [d])) hx ⟨_, upd_same, rpl_app h2 ⟨v, [], rfl, hv, rfl⟩⟩
        have hset : (k3 ++ [(Dl, Nd.lst acc)]).set k3.length (Dl, Nd.lst (acc ++ [d])) = k3 ++ [(Dl, Nd.lst (acc ++ [d]))] := by
          rw [List.set_append_right _ _ (Nat.le_refl _)]
          simp
        rw [hset] at e7
        refine ⟨xs, h1, by rw [rpl_len h2]; exact Nat.lt_of_le_of_lt (Nat.le_trans hlen (Nat.le_trans hi hn)) (by decide), acc ++ [d], k3, inv2, by rw [List.length_append]; exact Nat.succ_le_succ hlen, ?_⟩
        exact out ⟨F5, gF3.trans g5, e7.held fun p hp => List.mem_cons_of_mem _ hp, slots g5⟩
    · have ei : i = ws.length := by omega
      subst ei
      refine .inl ⟨hst _ ro (k ++ [(Dl, .lst acc)]) ta' sg H2 (Nat.le_refl _) ((hC _ acc k inv).2 _) (fun p hp => hp) e2, ?_⟩
      exact q _ _ Dl H2 ⟨acc, rfl, inv⟩ (e2.held hta)
/-- [e for x in .. if ..] -/
theorem evn_lc {wi : TI} {ws : List W} {C : Cells → Prop} {j : Nat} {vs : List Nat} (h : EvI K wi ro ka ws C k1) (hj : j ∈ vs) (hn : ws.length ≤ 1000000) (Inv : Nat → List D → Cells → Prop) (h0 : Inv 0 [] k1) (hC : ∀ i acc k, Inv i acc k → C k ∧ ∀ x, C (k ++ [x]))
    (hs : ∀ i w acc k, ws[i]? = some w → Inv i acc k → (∃ k2, EvT K tt ((wipeR ro vs).set j (some w)) k false k2 ∧ Inv (i + 1) acc k2) ∨ ∃ k2 k3 d, EvT K tt ((wipeR ro vs).set j (some w)) k true k2 ∧ EvD K te ((wipeR ro vs).set j (some w)) k2 (.val d) k3 ∧ Inv (i + 1) (acc ++ [d]) k3)
    {ds : List D} {kz : Cells} (hd : ∀ acc k, Inv ws.length acc k → acc = ds ∧ k = kz) : EvN K (tLc wi (gName j) tt te vs) ro ka (.lst ds) kz := fun B F0 ta sg H Q e q => evr_lc h hj hn Inv h0 hC hs B F0 ta sg H Q e fun n k a H' ⟨acc, hn', inv⟩ e' => by
  subst hn'
  obtain ⟨rfl, rfl⟩ := hd acc k inv
  exact q a H' e'
end
end DL

/-! DE: equality of data (own work). -/
namespace DL
open PySem L2 PySem.SeqAt

mutual
def eqD : D → D → Bool
  | .non, .non => true
  | .bl a, .bl b => a == b
  | .bl a, .int j => (if a then 1 else 0) == j
  | .int i, .bl b => i == (if b then 1 else 0)
  | .int i, .int j => i == j
  | .str x, .str y => x == y
  | .lst xs, .lst ys => eqL xs ys
  | .tup xs, .tup ys => eqL xs ys
  | _, _ => false
def eqL : List D → List D → Bool
  | [], [] => true
  | x :: xs, y :: ys => eqD x y && eqL xs ys
  | _, _ => false
end
/-- plain data: numbers, texts, lists and tuples of these, at most n deep -/
def pl : Nat → D → Bool
  | _, .non => true
  | _, .bl _ => true
  | _, .int _ => true
  | _, .str _ => true
  | n + 1, .lst ds => ds.all (pl n)
  | n + 1, .tup ds => ds.all (pl n)
  | _, _ => false
theorem eqL_len : ∀ {xs ys : List D}, eqL xs ys = true → xs.length = ys.length
  | [], [], _ => rfl
  | [], _ :: _, h => by cases h
  | _ :: _, [], h => by cases h
  | x :: xs, y :: ys, h => by
    have h2 := (Bool.and_eq_true_iff.mp (show (eqD x y && eqL xs ys) = true from h)).2
    rw [List.length_cons, List.length_cons, eqL_len h2]
theorem eqL_ne {xs ys : List D} (h : xs.length ≠ ys.length) : eqL xs ys = false := by
  cases q : eqL xs ys with
  | false => rfl
  | true => exact absurd (eqL_len q) h
/-- equal item by item -/
theorem eqL_all : ∀ (xs ys : List D), xs.length = ys.length → eqL xs ys = (List.range xs.length).all fun j => eqD (xs.getD j .non) (ys.getD j .non)
  | [], [], _ => rfl
  | [], _ :: _, h => by cases h
  | _ :: _, [], h => by cases h
  | x :: xs, y :: ys, h => by
    have ih := eqL_all xs ys (by simpa using h)
    show (eqD x y && eqL xs ys) = _
    rw [ih, List.length_cons, List.range_succ_eq_map, List.all_cons, List.all_map]
    rfl
section
variable {X : Cx} {pins : List (Addr × Obj)} {sg : L2.St} {H G : Hp} {s : Shared}
/-- the same value, two readings: equal -/
theorem eqD_same (I : Inv X pins sg H s) (fz : Exz G H) (nz : Nz G) (n : Nat) : ∀ (d e : D) (v : V), pl n d = true → pl n e = true → Rp X.K G d v → Rp X.K G e v → eqD d e = true := by
  induction n with
  | zero =>
    intro d e v h1 h2 r1 r2
    cases d <;> first | (exact absurd h1 Bool.false_ne_true) | skip
    all_goals cases e <;> first | (exact absurd h2 Bool.false_ne_true) | skip
    all_goals (have q := Eq.trans (Eq.symm (show v = _ from r1)) (show v = _ from r2); first | rfl | (cases q <;> first | rfl | exact beq_self_eq_true _))
  | succ n ih =>
    have hl : ∀ (ds es : List D) (xs : List V), ds.all (pl n) = true → es.all (pl n) = true → RpL X.K G ds xs → RpL X.K G es xs → eqL ds es = true := by
      intro ds
      induction ds with
      | nil =>
        intro es xs _ _ r1 r2
        cases es with
        | nil => rfl
        | cons e es =>
          obtain ⟨x, ys, hx, _⟩ := r2
          rw [show xs = [] from r1] at hx
          cases hx
      | cons d ds ih2 =>
        intro es xs h1 h2 r1 r2
        obtain ⟨x, ys, rfl, a1, a2⟩ := r1
        cases es with
        | nil => cases (show x :: ys = [] from r2)
        | cons e es =>
          obtain ⟨x', ys', hx, b1, b2⟩ := r2
          cases hx
          rw [List.all_cons] at h1 h2
          obtain ⟨c1, c2⟩ := Bool.and_eq_true_iff.mp h1
          obtain ⟨e1, e2⟩ := Bool.and_eq_true_iff.mp h2
          show (eqD d e && eqL ds es) = true
          rw [ih d e x c1 e1 a1 b1, ih2 es ys c2 e2 a2 b2] <;> rfl
    intro d e v h1 h2 r1 r2
    cases d <;> first | (exact absurd h1 Bool.false_ne_true) | skip
    all_goals cases e <;> first | (exact absurd h2 Bool.false_ne_true) | skip
    case tup.tup ds es =>
      obtain ⟨a, xs, rfl, q1, q2⟩ := r1
      obtain ⟨a', ys, e', p1, p2⟩ := r2
      cases e'
      have hxy := I.tuple_inj (sqT_mono fz nz q1) (sqT_mono fz nz p1)
      subst hxy
      exact hl ds es xs h1 h2 q2 p2
    case lst.lst ds es =>
      obtain ⟨a, xs, rfl, q1, q2⟩ := r1
      obtain ⟨a', ys, e', p1, p2⟩ := r2
      cases e'
      have hxy := I.list_inj (.inl (fz.rd nz q1)) (.inl (fz.rd nz p1))
      subst hxy
      exact hl ds es xs h1 h2 q2 p2
    case tup.lst ds es =>
      obtain ⟨a, xs, rfl, q1, q2⟩ := r1
      obtain ⟨a', ys, e', p1, p2⟩ := r2
      cases e'
      obtain ⟨its, _, t1, _⟩ := I.tuple (sqT_mono fz nz q1)
      obtain ⟨its2, _, t2, _⟩ := I.list (.inl (fz.rd nz p1))
      exact absurd rfl (ne_of_list_tuple t2.isList t1)
    case lst.tup ds es =>
      obtain ⟨a, xs, rfl, q1, q2⟩ := r1
      obtain ⟨a', ys, e', p1, p2⟩ := r2
      cases e'
      obtain ⟨its, _, t1, _⟩ := I.tuple (sqT_mono fz nz p1)
      obtain ⟨its2, _, t2, _⟩ := I.list (.inl (fz.rd nz q1))
      exact absurd rfl (ne_of_list_tuple t2.isList t1)
    all_goals first
      | (obtain ⟨a, xs, rfl, _⟩ := r1; cases (show V.ref a = _ from r2))
      | (obtain ⟨a, xs, rfl, _⟩ := r2; cases (show V.ref a = _ from r1))
      | (have q := Eq.trans (Eq.symm (show v = _ from r1)) (show v = _ from r2); first | rfl | (cases q <;> first | rfl | exact beq_self_eq_true _))
/-- the items' equality, by place -/
theorem items_eq {n : Nat} {A : Around} (ih : ∀ (d e : D) (A : Around) (v w : V) (u u' : Value), pl n d = true → pl n e = true → Rp X.K G d v → Rp X.K G e w → RelV v u → RelV w u' → A.units + n < cLine → EqAt A s u u' (eqD d e))
    {ds es : List D} {xs ys : List V} {its its2 : List Value} (h1 : ds.all (pl n) = true) (h2 : es.all (pl n) = true) (r1 : RpL X.K G ds xs) (r2 : RpL X.K G es ys) (q1 : Vals xs its) (q2 : Vals ys its2) (hu : A.units + (n + 1) < cLine) :
    ∀ j (l1 : j < its.toArray.size) (l2 : j < its2.toArray.size), EqAt A.in1 s its.toArray[j] its2.toArray[j] (eqD (ds.getD j .non) (es.getD j .non)) := fun j l1 l2 => by
  have k1 : j < its.length := by simpa using l1
  have k2 : j < its2.length := by simpa using l2
  have m1 : j < ds.length := by rw [← rpl_len r1, q1.length]; exact k1
  have m2 : j < es.length := by rw [← rpl_len r2, q2.length]; exact k2
  obtain ⟨v, hv, rv⟩ := rpl_get r1 (List.getElem?_eq_getElem m1)
  obtain ⟨w, hw, rw2⟩ := rpl_get r2 (List.getElem?_eq_getElem m2)
  obtain ⟨u, hu1, ru⟩ := q1.get hv
  obtain ⟨u', hu2, ru'⟩ := q2.get hw
  have e1 : its.toArray[j] = u := by
    rw [List.getElem?_eq_getElem k1] at hu1
    simpa using hu1
  have e2 : its2.toArray[j] = u' := by
    rw [List.getElem?_eq_getElem k2] at hu2
    simpa using hu2
  have g1 : ds.getD j .non = ds[j] := by simp [List.getD, List.getElem?_eq_getElem m1]
  have g2 : es.getD j .non = es[j] := by simp [List.getD, List.getElem?_eq_getElem m2]
  rw [e1, e2, g1, g2]
  exact ih _ _ A.in1 v w u u' (List.all_eq_true.mp h1 _ (List.getElem_mem m1)) (List.all_eq_true.mp h2 _ (List.getElem_mem m2)) rv rw2 ru ru' (by show A.units + 1 + n < cLine; omega)
theorem list_flat {A : Around} {a : Addr} {its : Array Value} (h : s.heap.IsList a its) (hu : A.units < cLine) : ∀ {w : V} {u : Value}, RelV w u → flatV w = true → EqAt A s (.ref a) u false ∧ EqAt A s u (.ref a) false
  | .non, u, r, _ => by
    cases r
    exact ⟨EqAt.list_none h hu, EqAt.none_list h hu⟩
  | .bl b, u, r, _ => by
    cases r
    exact ⟨EqAt.list_bool b h hu, EqAt.bool_list b h hu⟩
  | .int i, u, r, _ => by
    obtain ⟨t, rfl⟩ := r
    exact ⟨EqAt.list_int i t h hu, EqAt.int_list i t h hu⟩
  | .str z, u, r, _ => by
    obtain ⟨t, rfl⟩ := r
    exact ⟨EqAt.list_str z t h hu, EqAt.str_list z t h hu⟩
  | .byt _, _, _, f => absurd f Bool.false_ne_true
  | .flt _, _, _, f => absurd f Bool.false_ne_true
  | .ref _, _, _, f => absurd f Bool.false_ne_true
  | .ty _, _, _, f => absurd f Bool.false_ne_true
theorem tup_flat {A : Around} {a : Addr} {its : Array Value} (h : s.heap.IsTuple a its) (hu : A.units < cLine) : ∀ {w : V} {u : Value}, RelV w u → flatV w = true → EqAt A s (.ref a) u false ∧ EqAt A s u (.ref a) false
  | .non, u, r, _ => by
    cases r
    exact ⟨EqAt.tuple_none h hu, EqAt.none_tuple h hu⟩
  | .bl b, u, r, _ => by
    cases r
    exact ⟨EqAt.tuple_bool b h hu, EqAt.bool_tuple b h hu⟩
  | .int i, u, r, _ => by
    obtain ⟨t, rfl⟩ := r
    exact ⟨EqAt.tuple_int i t h hu, EqAt.int_tuple i t h hu⟩
  | .str z, u, r, _ => by
    obtain ⟨t, rfl⟩ := r
    exact ⟨EqAt.tuple_str z t h hu, EqAt.str_tuple z t h hu⟩
  | .byt _, _, _, f => absurd f Bool.false_ne_true
  | .flt _, _, _, f => absurd f Bool.false_ne_true
  | .ref _, _, _, f => absurd f Bool.false_ne_true
  | .ty _, _, _, f => absurd f Bool.false_ne_true
/-- flat data -/
def fl : D → Bool
  | .non => true
  | .bl _ => true
  | .int _ => true
  | .str _ => true
  | _ => false
theorem fl_v : ∀ {d : D} {v : V}, fl d = true → Rp X.K G d v → flatV v = true
  | .non, v, _, h => by rw [show v = _ from h]; rfl
  | .bl _, v, _, h => by rw [show v = _ from h]; rfl
  | .int _, v, _, h => by rw [show v = _ from h]; rfl
  | .str _, v, _, h => by rw [show v = _ from h]; rfl
theorem fl_eq : ∀ {d e : D} {v w : V}, fl d = true → fl e = true → Rp X.K G d v → Rp X.K G e w → eqV v w = eqD d e := by
  intro d e v w h1 h2 r1 r2
  cases d <;> first | (exact absurd h1 Bool.false_ne_true) | skip
  all_goals cases e <;> first | (exact absurd h2 Bool.false_ne_true) | skip
  all_goals (have z1 := (show v = _ from r1); have z2 := (show w = _ from r2); subst z1 z2; rfl)
theorem eqAt_D (I : Inv X pins sg H s) (fz : Exz G H) (nz : Nz G) (n : Nat) : ∀ (d e : D) (A : Around) (v w : V) (u u' : Value), pl n d = true → pl n e = true → Rp X.K G d v → Rp X.K G e w → RelV v u → RelV w u' → A.units + n < cLine → EqAt A s u u' (eqD d e) := by
  have flat : ∀ (A : Around) (d e : D) (v w : V) (u u' : Value), RelV v u → RelV w u' → flatV v = true → flatV w = true → eqV v w = eqD d e → EqAt A s u u' (eqD d e) := fun A d e v w u u' r1 r2 f1 f2 q => q ▸ eqAt_V r1 r2 f1 f2
  induction n with
  | zero =>
    intro d e A v w u u' h1 h2 r1 r2 q1 q2 hu
    cases d <;> first | (exact absurd h1 Bool.false_ne_true) | skip
    all_goals cases e <;> first | (exact absurd h2 Bool.false_ne_true) | skip
    all_goals (have z1 := (show v = _ from r1); have z2 := (show w = _ from r2); subst z1 z2; exact flat A _ _ _ _ _ _ q1 q2 rfl rfl rfl)
  | succ n ih =>
    intro d e A v w u u' h1 h2 r1 r2 q1 q2 hu
    have hu0 : A.units < cLine := by omega
    have lstf : ∀ {ds : List D} {e : D}, Rp X.K G (.lst ds) v → fl e = true → Rp X.K G e w → RelV v u → RelV w u' → EqAt A s u u' false := fun {ds e} r1 f r2 q1 q2 => by
      obtain ⟨a, xs, rfl, a1, a2⟩ := r1
      cases q1
      obtain ⟨its, t1, t2, _⟩ := I.list (.inl (fz.rd nz a1))
      exact (list_flat t2.isList hu0 q2 (fl_v f r2)).1
    have tupf : ∀ {ds : List D} {e : D}, Rp X.K G (.tup ds) v → fl e = true → Rp X.K G e w → RelV v u → RelV w u' → EqAt A s u u' false := fun {ds e} r1 f r2 q1 q2 => by
      obtain ⟨a, xs, rfl, a1, a2⟩ := r1
      cases q1
      obtain ⟨its, t1, t2, _⟩ := I.tuple (sqT_mono fz nz a1)
      exact (tup_flat t2 hu0 q2 (fl_v f r2)).1
    have flst : ∀ {ds : List D} {e : D}, Rp X.K G e v → fl e = true → Rp X.K G (.lst ds) w → RelV v u → RelV w u' → EqAt A s u u' false := fun {ds e} r1 f r2 q1 q2 => by
      obtain ⟨a, xs, rfl, a1, a2⟩ := r2
      cases q2
      obtain ⟨its, t1, t2, _⟩ := I.list (.inl (fz.rd nz a1))
      exact (list_flat t2.isList hu0 q1 (fl_v f r1)).2
    have ftup : ∀ {ds : List D} {e : D}, Rp X.K G e v → fl e = true → Rp X.K G (.tup ds) w → RelV v u → RelV w u' → EqAt A s u u' false := fun {ds e} r1 f r2 q1 q2 => by
      obtain ⟨a, xs, rfl, a1, a2⟩ := r2
      cases q2
      obtain ⟨its, t1, t2, _⟩ := I.tuple (sqT_mono fz nz a1)
      exact (tup_flat t2 hu0 q1 (fl_v f r1)).2
    cases d <;> first | (exact absurd h1 Bool.false_ne_true) | skip
    all_goals cases e <;> first | (exact absurd h2 Bool.false_ne_true) | skip
    case lst.lst ds es =>
      by_cases hab : v = w
      · subst hab
        have hue : u = u' := by
          obtain ⟨a, xs, rfl, _⟩ := r1
          rw [show u = Value.ref a from q1, show u' = Value.ref a from q2]
        subst hue
        rw [eqD_same I fz nz (n + 1) _ _ v h1 h2 r1 r2]
        exact EqAt.same _
      · obtain ⟨a, xs, rfl, a1, a2⟩ := r1
        obtain ⟨b, ys, rfl, b1, b2⟩ := r2
        cases q1
        cases q2
        obtain ⟨its, t1, t2, _⟩ := I.list (.inl (fz.rd nz a1))
        obtain ⟨its2, t3, t4, _⟩ := I.list (.inl (fz.rd nz b1))
        have l1 : its.toArray.size = ds.length := by rw [List.size_toArray, ← t1.length, rpl_len a2]
        have l2 : its2.toArray.size = es.length := by rw [List.size_toArray, ← t3.length, rpl_len b2]
        show EqAt A s _ _ (eqL ds es)
        by_cases hl : ds.length = es.length
        · rw [eqL_all ds es hl, ← l1]
          exact EqAt.of_refs (fun z => hab (by rw [z])) (RcAt.lists t2.isList t4.isList (by omega) hu0 (items_eq ih h1 h2 a2 b2 t1 t3 hu))
        · rw [eqL_ne hl]
          exact EqAt.of_refs (fun z => hab (by rw [z])) (RcAt.lists_lengths t2.isList t4.isList (by simp only [bne_iff_ne]; omega) hu0)
    case tup.tup ds es =>
      by_cases hab : v = w
      · subst hab
        have hue : u = u' := by
          obtain ⟨a, xs, rfl, _⟩ := r1
          rw [show u = Value.ref a from q1, show u' = Value.ref a from q2]
        subst hue
        rw [eqD_same I fz nz (n + 1) _ _ v h1 h2 r1 r2]
        exact EqAt.same _
      · obtain ⟨a, xs, rfl, a1, a2⟩ := r1
        obtain ⟨b, ys, rfl, b1, b2⟩ := r2
        cases q1
        cases q2
        obtain ⟨its, t1, t2, _⟩ := I.tuple (sqT_mono fz nz a1)
        obtain ⟨its2, t3, t4, _⟩ := I.tuple (sqT_mono fz nz b1)
        have l1 : its.toArray.size = ds.length := by rw [List.size_toArray, ← t1.length, rpl_len a2]
        have l2 : its2.toArray.size = es.length := by rw [List.size_toArray, ← t3.length, rpl_len b2]
        have main := RcAt.tuples t2 t4 hu0 (items_eq ih h1 h2 a2 b2 t1 t3 hu)
        have key : ((List.range (min its.toArray.size its2.toArray.size)).all (fun j => eqD (ds.getD j .non) (es.getD j .non)) && its.toArray.size == its2.toArray.size) = eqL ds es := by
          by_cases hl : ds.length = es.length
          · rw [eqL_all ds es hl, l1, l2, hl]
            simp
          · rw [eqL_ne hl, l1, l2]
            simp [hl]
        rw [key] at main
        exact EqAt.of_refs (fun z => hab (by rw [z])) main
    case lst.tup ds es =>
      obtain ⟨a, xs, rfl, a1, a2⟩ := r1
      obtain ⟨b, ys, rfl, b1, b2⟩ := r2
      cases q1
      cases q2
      obtain ⟨its, t1, t2, _⟩ := I.list (.inl (fz.rd nz a1))
      obtain ⟨its2, t3, t4, _⟩ := I.tuple (sqT_mono fz nz b1)
      exact EqAt.list_tuple t2.isList t4 hu0
    case tup.lst ds es =>
      obtain ⟨a, xs, rfl, a1, a2⟩ := r1
      obtain ⟨b, ys, rfl, b1, b2⟩ := r2
      cases q1
      cases q2
      obtain ⟨its, t1, t2, _⟩ := I.tuple (sqT_mono fz nz a1)
      obtain ⟨its2, t3, t4, _⟩ := I.list (.inl (fz.rd nz b1))
      exact EqAt.tuple_list t2 t4.isList hu0
    case lst.non => exact lstf r1 rfl r2 q1 q2
    case lst.bl => exact lstf r1 rfl r2 q1 q2
    case lst.int => exact lstf r1 rfl r2 q1 q2
    case lst.str => exact lstf r1 rfl r2 q1 q2
    case tup.non => exact tupf r1 rfl r2 q1 q2
    case tup.bl => exact tupf r1 rfl r2 q1 q2
    case tup.int => exact tupf r1 rfl r2 q1 q2
    case tup.str => exact tupf r1 rfl r2 q1 q2
    case non.lst => exact flst r1 rfl r2 q1 q2
    case bl.lst => exact flst r1 rfl r2 q1 q2
    case int.lst => exact flst r1 rfl r2 q1 q2
    case str.lst => exact flst r1 rfl r2 q1 q2
    case non.tup => exact ftup r1 rfl r2 q1 q2
    case bl.tup => exact ftup r1 rfl r2 q1 q2
    case int.tup => exact ftup r1 rfl r2 q1 q2
    case str.tup => exact ftup r1 rfl r2 q1 q2
    all_goals (have z1 := (show v = _ from r1); have z2 := (show w = _ from r2); subst z1 z2; exact flat A _ _ _ _ _ _ q1 q2 rfl rfl rfl)
end
end DL

/-! DQ: == and != of data, at the top (printed by gen_eq.py, own work). -/
namespace DL
open PySem L2 PySem.SeqAt
section
variable {X : Cx} {pins : List (Addr × Obj)} {sg : L2.St} {H G : Hp} {s : Shared}

theorem rc_flat {A : Around} : ∀ {v w : V} {u u' : Value}, RelV v u → RelV w u' → flatV v = true → flatV w = true → RcAt A s u u' (eqV v w)
  | .non, .non, u, u', r1, r2, _, _ => by
    cases r1
    cases r2
    exact RcAt.none_none
  | .non, .bl b2, u, u', r1, r2, _, _ => by
    cases r1
    cases r2
    exact RcAt.none_bool b2
  | .non, .int i2, u, u', r1, r2, _, _ => by
    cases r1
    obtain ⟨t2, rfl⟩ := r2
    exact RcAt.none_int i2 t2
  | .non, .str z2, u, u', r1, r2, _, _ => by
    cases r1
    obtain ⟨t2, rfl⟩ := r2
    exact RcAt.none_str z2 t2
  | .bl b1, .non, u, u', r1, r2, _, _ => by
    cases r1
    cases r2
    exact RcAt.bool_none b1
  | .bl b1, .bl b2, u, u', r1, r2, _, _ => by
    cases r1
    cases r2
    exact RcAt.bool_bool b1 b2
  | .bl b1, .int i2, u, u', r1, r2, _, _ => by
    cases r1
    obtain ⟨t2, rfl⟩ := r2
    exact RcAt.bool_int b1 i2 t2
  | .bl b1, .str z2, u, u', r1, r2, _, _ => by
    cases r1
    obtain ⟨t2, rfl⟩ := r2
    exact RcAt.bool_str b1 z2 t2
  | .int i1, .non, u, u', r1, r2, _, _ => by
    obtain ⟨t1, rfl⟩ := r1
    cases r2
    exact RcAt.int_none i1 t1
  | .int i1, .bl b2, u, u', r1, r2, _, _ => by
    obtain ⟨t1, rfl⟩ := r1
    cases r2
    exact RcAt.int_bool i1 t1 b2
  | .int i1, .int i2, u, u', r1, r2, _, _ => by
    obtain ⟨t1, rfl⟩ := r1
    obtain ⟨t2, rfl⟩ := r2
    exact RcAt.int_int i1 t1 i2 t2
  | .int i1, .str z2, u, u', r1, r2, _, _ => by
    obtain ⟨t1, rfl⟩ := r1
    obtain ⟨t2, rfl⟩ := r2
    exact RcAt.int_str i1 t1 z2 t2
  | .str z1, .non, u, u', r1, r2, _, _ => by
    obtain ⟨t1, rfl⟩ := r1
    cases r2
    exact RcAt.str_none z1 t1
  | .str z1, .bl b2, u, u', r1, r2, _, _ => by
    obtain ⟨t1, rfl⟩ := r1
    cases r2
    exact RcAt.str_bool z1 t1 b2
  | .str z1, .int i2, u, u', r1, r2, _, _ => by
    obtain ⟨t1, rfl⟩ := r1
    obtain ⟨t2, rfl⟩ := r2
    exact RcAt.str_int z1 t1 i2 t2
  | .str z1, .str z2, u, u', r1, r2, _, _ => by
    obtain ⟨t1, rfl⟩ := r1
    obtain ⟨t2, rfl⟩ := r2
    exact RcAt.str_str z1 t1 z2 t2
  | .byt _, _, _, _, _, _, f, _ => absurd f Bool.false_ne_true
  | .flt _, _, _, _, _, _, f, _ => absurd f Bool.false_ne_true
  | .ref _, _, _, _, _, _, f, _ => absurd f Bool.false_ne_true
  | .ty _, _, _, _, _, _, f, _ => absurd f Bool.false_ne_true
  | .non, .byt _, _, _, _, _, _, f => absurd f Bool.false_ne_true
  | .bl _, .byt _, _, _, _, _, _, f => absurd f Bool.false_ne_true
  | .int _, .byt _, _, _, _, _, _, f => absurd f Bool.false_ne_true
  | .str _, .byt _, _, _, _, _, _, f => absurd f Bool.false_ne_true
  | .non, .flt _, _, _, _, _, _, f => absurd f Bool.false_ne_true
  | .bl _, .flt _, _, _, _, _, _, f => absurd f Bool.false_ne_true
  | .int _, .flt _, _, _, _, _, _, f => absurd f Bool.false_ne_true
  | .str _, .flt _, _, _, _, _, _, f => absurd f Bool.false_ne_true
  | .non, .ref _, _, _, _, _, _, f => absurd f Bool.false_ne_true
  | .bl _, .ref _, _, _, _, _, _, f => absurd f Bool.false_ne_true
  | .int _, .ref _, _, _, _, _, _, f => absurd f Bool.false_ne_true
  | .str _, .ref _, _, _, _, _, _, f => absurd f Bool.false_ne_true
  | .non, .ty _, _, _, _, _, _, f => absurd f Bool.false_ne_true
  | .bl _, .ty _, _, _, _, _, _, f => absurd f Bool.false_ne_true
  | .int _, .ty _, _, _, _, _, _, f => absurd f Bool.false_ne_true
  | .str _, .ty _, _, _, _, _, _, f => absurd f Bool.false_ne_true
theorem rc_list {A : Around} {a : Addr} {its : Array Value} (h : s.heap.IsList a its) (hu : A.units < cLine) : ∀ {w : V} {u : Value}, RelV w u → flatV w = true → RcAt A s (.ref a) u false ∧ RcAt A s u (.ref a) false
  | .non, u, r, _ => by
    cases r
    exact ⟨RcAt.list_none h hu, RcAt.none_list h hu⟩
  | .bl b2, u, r, _ => by
    cases r
    exact ⟨RcAt.list_bool b2 h hu, RcAt.bool_list b2 h hu⟩
  | .int i2, u, r, _ => by
    obtain ⟨t2, rfl⟩ := r
    exact ⟨RcAt.list_int i2 t2 h hu, RcAt.int_list i2 t2 h hu⟩
  | .str z2, u, r, _ => by
    obtain ⟨t2, rfl⟩ := r
    exact ⟨RcAt.list_str z2 t2 h hu, RcAt.str_list z2 t2 h hu⟩
  | .byt _, _, _, f => absurd f Bool.false_ne_true
  | .flt _, _, _, f => absurd f Bool.false_ne_true
  | .ref _, _, _, f => absurd f Bool.false_ne_true
  | .ty _, _, _, f => absurd f Bool.false_ne_true
theorem rc_tuple {A : Around} {a : Addr} {its : Array Value} (h : s.heap.IsTuple a its) (hu : A.units < cLine) : ∀ {w : V} {u : Value}, RelV w u → flatV w = true → RcAt A s (.ref a) u false ∧ RcAt A s u (.ref a) false
  | .non, u, r, _ => by
    cases r
    exact ⟨RcAt.tuple_none h hu, RcAt.none_tuple h hu⟩
  | .bl b2, u, r, _ => by
    cases r
    exact ⟨RcAt.tuple_bool b2 h hu, RcAt.bool_tuple b2 h hu⟩
  | .int i2, u, r, _ => by
    obtain ⟨t2, rfl⟩ := r
    exact ⟨RcAt.tuple_int i2 t2 h hu, RcAt.int_tuple i2 t2 h hu⟩
  | .str z2, u, r, _ => by
    obtain ⟨t2, rfl⟩ := r
    exact ⟨RcAt.tuple_str z2 t2 h hu, RcAt.str_tuple z2 t2 h hu⟩
  | .byt _, _, _, f => absurd f Bool.false_ne_true
  | .flt _, _, _, f => absurd f Bool.false_ne_true
  | .ref _, _, _, f => absurd f Bool.false_ne_true
  | .ty _, _, _, f => absurd f Bool.false_ne_true
theorem rc_D (I : Inv X pins sg H s) (fz : Exz G H) (nz : Nz G) (n : Nat) (d e : D) (A : Around) (v w : V) (u u' : Value) (h1 : pl (n + 1) d = true) (h2 : pl (n + 1) e = true) (r1 : Rp X.K G d v) (r2 : Rp X.K G e w) (q1 : RelV v u) (q2 : RelV w u') (hu : A.units + (n + 1) < cLine) : RcAt A s u u' (eqD d e) := by
  have hu0 : A.units < cLine := by omega
  have ih := eqAt_D (X := X) I fz nz n
  have lstf : ∀ {ds : List D} {e : D}, Rp X.K G (.lst ds) v → fl e = true → Rp X.K G e w → RcAt A s u u' false := fun {ds e} r1 f r2 => by
    obtain ⟨a, xs, rfl, a1, a2⟩ := r1
    cases q1
    obtain ⟨its, t1, t2, _⟩ := I.list (.inl (fz.rd nz a1))
    exact (rc_list t2.isList hu0 q2 (fl_v f r2)).1
  have tupf : ∀ {ds : List D} {e : D}, Rp X.K G (.tup ds) v → fl e = true → Rp X.K G e w → RcAt A s u u' false := fun {ds e} r1 f r2 => by
    obtain ⟨a, xs, rfl, a1, a2⟩ := r1
    cases q1
    obtain ⟨its, t1, t2, _⟩ := I.tuple (sqT_mono fz nz a1)
    exact (rc_tuple t2 hu0 q2 (fl_v f r2)).1
  have flst : ∀ {ds : List D} {e : D}, Rp X.K G e v → fl e = true → Rp X.K G (.lst ds) w → RcAt A s u u' false := fun {ds e} r1 f r2 => by
    obtain ⟨a, xs, rfl, a1, a2⟩ := r2
    cases q2
    obtain ⟨its, t1, t2, _⟩ := I.list (.inl (fz.rd nz a1))
    exact (rc_list t2.isList hu0 q1 (fl_v f r1)).2
  have ftup : ∀ {ds : List D} {e : D}, Rp X.K G e v → fl e = true → Rp X.K G (.tup ds) w → RcAt A s u u' false := fun {ds e} r1 f r2 => by
    obtain ⟨a, xs, rfl, a1, a2⟩ := r2
    cases q2
    obtain ⟨its, t1, t2, _⟩ := I.tuple (sqT_mono fz nz a1)
    exact (rc_tuple t2 hu0 q1 (fl_v f r1)).2
  have flat : ∀ {d e : D}, fl d = true → fl e = true → Rp X.K G d v → Rp X.K G e w → RcAt A s u u' (eqD d e) := fun {d e} f1 f2 r1 r2 => by
    have z := rc_flat (A := A) (s := s) q1 q2 (fl_v f1 r1) (fl_v f2 r2)
    rw [fl_eq f1 f2 r1 r2] at z
    exact z
  cases d <;> first | (exact absurd h1 Bool.false_ne_true) | skip
  all_goals cases e <;> first | (exact absurd h2 Bool.false_ne_true) | skip
  case lst.lst ds es =>
    obtain ⟨a, xs, rfl, a1, a2⟩ := r1
    obtain ⟨b, ys, rfl, b1, b2⟩ := r2
    cases q1
    cases q2
    obtain ⟨its, t1, t2, _⟩ := I.list (.inl (fz.rd nz a1))
    obtain ⟨its2, t3, t4, _⟩ := I.list (.inl (fz.rd nz b1))
    have l1 : its.toArray.size = ds.length := by rw [List.size_toArray, ← t1.length, rpl_len a2]
    have l2 : its2.toArray.size = es.length := by rw [List.size_toArray, ← t3.length, rpl_len b2]
    show RcAt A s _ _ (eqL ds es)
    by_cases hl : ds.length = es.length
    · rw [eqL_all ds es hl, ← l1]
      exact RcAt.lists t2.isList t4.isList (by omega) hu0 (items_eq ih h1 h2 a2 b2 t1 t3 hu)
    · rw [eqL_ne hl]
      exact RcAt.lists_lengths t2.isList t4.isList (by simp only [bne_iff_ne]; omega) hu0
  case tup.tup ds es =>
    obtain ⟨a, xs, rfl, a1, a2⟩ := r1
    obtain ⟨b, ys, rfl, b1, b2⟩ := r2
    cases q1
    cases q2
    obtain ⟨its, t1, t2, _⟩ := I.tuple (sqT_mono fz nz a1)
    obtain ⟨its2, t3, t4, _⟩ := I.tuple (sqT_mono fz nz b1)
    have l1 : its.toArray.size = ds.length := by rw [List.size_toArray, ← t1.length, rpl_len a2]
    have l2 : its2.toArray.size = es.length := by rw [List.size_toArray, ← t3.length, rpl_len b2]
    have main := RcAt.tuples t2 t4 hu0 (items_eq ih h1 h2 a2 b2 t1 t3 hu)
    have key : ((List.range (min its.toArray.size its2.toArray.size)).all (fun j => eqD (ds.getD j .non) (es.getD j .non)) && its.toArray.size == its2.toArray.size) = eqL ds es := by
      by_cases hl : ds.length = es.length
      · rw [eqL_all ds es hl, l1, l2, hl]
        simp
      · rw [eqL_ne hl, l1, l2]
        simp [hl]
    rw [key] at main
    exact main
  case lst.tup ds es =>
    obtain ⟨a, xs, rfl, a1, a2⟩ := r1
    obtain ⟨b, ys, rfl, b1, b2⟩ := r2
    cases q1
    cases q2
    obtain ⟨its, t1, t2, _⟩ := I.list (.inl (fz.rd nz a1))
    obtain ⟨its2, t3, t4, _⟩ := I.tuple (sqT_mono fz nz b1)
    exact RcAt.list_tuple t2.isList t4 hu0
  case tup.lst ds es =>
    obtain ⟨a, xs, rfl, a1, a2⟩ := r1
    obtain ⟨b, ys, rfl, b1, b2⟩ := r2
    cases q1
    cases q2
    obtain ⟨its, t1, t2, _⟩ := I.tuple (sqT_mono fz nz a1)
    obtain ⟨its2, t3, t4, _⟩ := I.list (.inl (fz.rd nz b1))
    exact RcAt.tuple_list t2 t4.isList hu0
  case lst.non => exact lstf r1 rfl r2
  case tup.non => exact tupf r1 rfl r2
  case non.lst => exact flst r1 rfl r2
  case non.tup => exact ftup r1 rfl r2
  case lst.bl => exact lstf r1 rfl r2
  case tup.bl => exact tupf r1 rfl r2
  case bl.lst => exact flst r1 rfl r2
  case bl.tup => exact ftup r1 rfl r2
  case lst.int => exact lstf r1 rfl r2
  case tup.int => exact tupf r1 rfl r2
  case int.lst => exact flst r1 rfl r2
  case int.tup => exact ftup r1 rfl r2
  case lst.str => exact lstf r1 rfl r2
  case tup.str => exact tupf r1 rfl r2
  case str.lst => exact flst r1 rfl r2
  case str.tup => exact ftup r1 rfl r2
  all_goals exact flat rfl rfl r1 r2
theorem rn_flat {A : Around} : ∀ {v w : V} {u u' : Value}, RelV v u → RelV w u' → flatV v = true → flatV w = true → RcNeAt A s u u' (!eqV v w)
  | .non, .non, u, u', r1, r2, _, _ => by
    cases r1
    cases r2
    exact RcNeAt.none_none
  | .non, .bl b2, u, u', r1, r2, _, _ => by
    cases r1
    cases r2
    exact RcNeAt.none_bool b2
  | .non, .int i2, u, u', r1, r2, _, _ => by
    cases r1
    obtain ⟨t2, rfl⟩ := r2
    exact RcNeAt.none_int i2 t2
  | .non, .str z2, u, u', r1, r2, _, _ => by
    cases r1
    obtain ⟨t2, rfl⟩ := r2
    exact RcNeAt.none_str z2 t2
  | .bl b1, .non, u, u', r1, r2, _, _ => by
    cases r1
    cases r2
    exact RcNeAt.bool_none b1
  | .bl b1, .bl b2, u, u', r1, r2, _, _ => by
    cases r1
    cases r2
    exact RcNeAt.bool_bool b1 b2
  | .bl b1, .int i2, u, u', r1, r2, _, _ => by
    cases r1
    obtain ⟨t2, rfl⟩ := r2
    exact RcNeAt.bool_int b1 i2 t2
  | .bl b1, .str z2, u, u', r1, r2, _, _ => by
    cases r1
    obtain ⟨t2, rfl⟩ := r2
    exact RcNeAt.bool_str b1 z2 t2
  | .int i1, .non, u, u', r1, r2, _, _ => by
    obtain ⟨t1, rfl⟩ := r1
    cases r2
    exact RcNeAt.int_none i1 t1
  | .int i1, .bl b2, u, u', r1, r2, _, _ => by
    obtain ⟨t1, rfl⟩ := r1
    cases r2
    exact RcNeAt.int_bool i1 t1 b2
  | .int i1, .int i2, u, u', r1, r2, _, _ => by
    obtain ⟨t1, rfl⟩ := r1
    obtain ⟨t2, rfl⟩ := r2
    exact RcNeAt.int_int i1 t1 i2 t2
  | .int i1, .str z2, u, u', r1, r2, _, _ => by
    obtain ⟨t1, rfl⟩ := r1
    obtain ⟨t2, rfl⟩ := r2
    exact RcNeAt.int_str i1 t1 z2 t2
  | .str z1, .non, u, u', r1, r2, _, _ => by
    obtain ⟨t1, rfl⟩ := r1
    cases r2
    exact RcNeAt.str_none z1 t1
  | .str z1, .bl b2, u, u', r1, r2, _, _ => by
    obtain ⟨t1, rfl⟩ := r1
    cases r2
    exact RcNeAt.str_bool z1 t1 b2
  | .str z1, .int i2, u, u', r1, r2, _, _ => by
    obtain ⟨t1, rfl⟩ := r1
    obtain ⟨t2, rfl⟩ := r2
    exact RcNeAt.str_int z1 t1 i2 t2
  | .str z1, .str z2, u, u', r1, r2, _, _ => by
    obtain ⟨t1, rfl⟩ := r1
    obtain ⟨t2, rfl⟩ := r2
    exact RcNeAt.str_str z1 t1 z2 t2
  | .byt _, _, _, _, _, _, f, _ => absurd f Bool.false_ne_true
  | .flt _, _, _, _, _, _, f, _ => absurd f Bool.false_ne_true
  | .ref _, _, _, _, _, _, f, _ => absurd f Bool.false_ne_true
  | .ty _, _, _, _, _, _, f, _ => absurd f Bool.false_ne_true
  | .non, .byt _, _, _, _, _, _, f => absurd f Bool.false_ne_true
  | .bl _, .byt _, _, _, _, _, _, f => absurd f Bool.false_ne_true
  | .int _, .byt _, _, _, _, _, _, f => absurd f Bool.false_ne_true
  | .str _, .byt _, _, _, _, _, _, f => absurd f Bool.false_ne_true
  | .non, .flt _, _, _, _, _, _, f => absurd f Bool.false_ne_true
  | .bl _, .flt _, _, _, _, _, _, f => absurd f Bool.false_ne_true
  | .int _, .flt _, _, _, _, _, _, f => absurd f Bool.false_ne_true
  | .str _, .flt _, _, _, _, _, _, f => absurd f Bool.false_ne_true
  | .non, .ref _, _, _, _, _, _, f => absurd f Bool.false_ne_true
  | .bl _, .ref _, _, _, _, _, _, f => absurd f Bool.false_ne_true
  | .int _, .ref _, _, _, _, _, _, f => absurd f Bool.false_ne_true
  | .str _, .ref _, _, _, _, _, _, f => absurd f Bool.false_ne_true
  | .non, .ty _, _, _, _, _, _, f => absurd f Bool.false_ne_true
  | .bl _, .ty _, _, _, _, _, _, f => absurd f Bool.false_ne_true
  | .int _, .ty _, _, _, _, _, _, f => absurd f Bool.false_ne_true
  | .str _, .ty _, _, _, _, _, _, f => absurd f Bool.false_ne_true
theorem rn_list {A : Around} {a : Addr} {its : Array Value} (h : s.heap.IsList a its) (hu : A.units < cLine) : ∀ {w : V} {u : Value}, RelV w u → flatV w = true → RcNeAt A s (.ref a) u true ∧ RcNeAt A s u (.ref a) true
  | .non, u, r, _ => by
    cases r
    exact ⟨RcNeAt.list_none h hu, RcNeAt.none_list h hu⟩
  | .bl b2, u, r, _ => by
    cases r
    exact ⟨RcNeAt.list_bool b2 h hu, RcNeAt.bool_list b2 h hu⟩
  | .int i2, u, r, _ => by
    obtain ⟨t2, rfl⟩ := r
    exact ⟨RcNeAt.list_int i2 t2 h hu, RcNeAt.int_list i2 t2 h hu⟩
  | .str z2, u, r, _ => by
    obtain ⟨t2, rfl⟩ := r
    exact ⟨RcNeAt.list_str z2 t2 h hu, RcNeAt.str_list z2 t2 h hu⟩
  | .byt _, _, _, f => absurd f Bool.false_ne_true
  | .flt _, _, _, f => absurd f Bool.false_ne_true
  | .ref _, _, _, f => absurd f Bool.false_ne_true
  | .ty _, _, _, f => absurd f Bool.false_ne_true
theorem rn_tuple {A : Around} {a : Addr} {its : Array Value} (h : s.heap.IsTuple a its) (hu : A.units < cLine) : ∀ {w : V} {u : Value}, RelV w u → flatV w = true → RcNeAt A s (.ref a) u true ∧ RcNeAt A s u (.ref a) true
  | .non, u, r, _ => by
    cases r
    exact ⟨RcNeAt.tuple_none h hu, RcNeAt.none_tuple h hu⟩
  | .bl b2, u, r, _ => by
    cases r
    exact ⟨RcNeAt.tuple_bool b2 h hu, RcNeAt.bool_tuple b2 h hu⟩
  | .int i2, u, r, _ => by
    obtain ⟨t2, rfl⟩ := r
    exact ⟨RcNeAt.tuple_int i2 t2 h hu, RcNeAt.int_tuple i2 t2 h hu⟩
  | .str z2, u, r, _ => by
    obtain ⟨t2, rfl⟩ := r
    exact ⟨RcNeAt.tuple_str z2 t2 h hu, RcNeAt.str_tuple z2 t2 h hu⟩
  | .byt _, _, _, f => absurd f Bool.false_ne_true
  | .flt _, _, _, f => absurd f Bool.false_ne_true
  | .ref _, _, _, f => absurd f Bool.false_ne_true
  | .ty _, _, _, f => absurd f Bool.false_ne_true
theorem rn_D (I : Inv X pins sg H s) (fz : Exz G H) (nz : Nz G) (n : Nat) (d e : D) (A : Around) (v w : V) (u u' : Value) (h1 : pl (n + 1) d = true) (h2 : pl (n + 1) e = true) (r1 : Rp X.K G d v) (r2 : Rp X.K G e w) (q1 : RelV v u) (q2 : RelV w u') (hu : A.units + (n + 1) < cLine) : RcNeAt A s u u' (!eqD d e) := by
  have hu0 : A.units < cLine := by omega
  have ih := eqAt_D (X := X) I fz nz n
  have lstf : ∀ {ds : List D} {e : D}, Rp X.K G (.lst ds) v → fl e = true → Rp X.K G e w → RcNeAt A s u u' true := fun {ds e} r1 f r2 => by
    obtain ⟨a, xs, rfl, a1, a2⟩ := r1
    cases q1
    obtain ⟨its, t1, t2, _⟩ := I.list (.inl (fz.rd nz a1))
    exact (rn_list t2.isList hu0 q2 (fl_v f r2)).1
  have tupf : ∀ {ds : List D} {e : D}, Rp X.K G (.tup ds) v → fl e = true → Rp X.K G e w → RcNeAt A s u u' true := fun {ds e} r1 f r2 => by
    obtain ⟨a, xs, rfl, a1, a2⟩ := r1
    cases q1
    obtain ⟨its, t1, t2, _⟩ := I.tuple (sqT_mono fz nz a1)
    exact (rn_tuple t2 hu0 q2 (fl_v f r2)).1
  have flst : ∀ {ds : List D} {e : D}, Rp X.K G e v → fl e = true → Rp X.K G (.lst ds) w → RcNeAt A s u u' true := fun {ds e} r1 f r2 => by
    obtain ⟨a, xs, rfl, a1, a2⟩ := r2
    cases q2
    obtain ⟨its, t1, t2, _⟩ := I.list (.inl (fz.rd nz a1))
    exact (rn_list t2.isList hu0 q1 (fl_v f r1)).2
  have ftup : ∀ {ds : List D} {e : D}, Rp X.K G e v → fl e = true → Rp X.K G (.tup ds) w → RcNeAt A s u u' true := fun {ds e} r1 f r2 => by
    obtain ⟨a, xs, rfl, a1, a2⟩ := r2
    cases q2
    obtain ⟨its, t1, t2, _⟩ := I.tuple (sqT_mono fz nz a1)
    exact (rn_tuple t2 hu0 q1 (fl_v f r1)).2
  have flat : ∀ {d e : D}, fl d = true → fl e = true → Rp X.K G d v → Rp X.K G e w → RcNeAt A s u u' (!eqD d e) := fun {d e} f1 f2 r1 r2 => by
    have z := rn_flat (A := A) (s := s) q1 q2 (fl_v f1 r1) (fl_v f2 r2)
    rw [fl_eq f1 f2 r1 r2] at z
    exact z
  cases d <;> first | (exact absurd h1 Bool.false_ne_true) | skip
  all_goals cases e <;> first | (exact absurd h2 Bool.false_ne_true) | skip
  case lst.lst ds es =>
    obtain ⟨a, xs, rfl, a1, a2⟩ := r1
    obtain ⟨b, ys, rfl, b1, b2⟩ := r2
    cases q1
    cases q2
    obtain ⟨its, t1, t2, _⟩ := I.list (.inl (fz.rd nz a1))
    obtain ⟨its2, t3, t4, _⟩ := I.list (.inl (fz.rd nz b1))
    have l1 : its.toArray.size = ds.length := by rw [List.size_toArray, ← t1.length, rpl_len a2]
    have l2 : its2.toArray.size = es.length := by rw [List.size_toArray, ← t3.length, rpl_len b2]
    show RcNeAt A s _ _ (!eqL ds es)
    by_cases hl : ds.length = es.length
    · rw [eqL_all ds es hl, ← l1]
      exact RcNeAt.lists t2.isList t4.isList (by omega) hu0 (items_eq ih h1 h2 a2 b2 t1 t3 hu)
    · rw [eqL_ne hl]
      exact RcNeAt.lists_lengths t2.isList t4.isList (by simp only [bne_iff_ne]; omega) hu0
  case tup.tup ds es =>
    obtain ⟨a, xs, rfl, a1, a2⟩ := r1
    obtain ⟨b, ys, rfl, b1, b2⟩ := r2
    cases q1
    cases q2
    obtain ⟨its, t1, t2, _⟩ := I.tuple (sqT_mono fz nz a1)
    obtain ⟨its2, t3, t4, _⟩ := I.tuple (sqT_mono fz nz b1)
    have l1 : its.toArray.size = ds.length := by rw [List.size_toArray, ← t1.length, rpl_len a2]
    have l2 : its2.toArray.size = es.length := by rw [List.size_toArray, ← t3.length, rpl_len b2]
    have main := RcNeAt.tuples t2 t4 hu0 (items_eq ih h1 h2 a2 b2 t1 t3 hu)
    have key : ((List.range (min its.toArray.size its2.toArray.size)).all (fun j => eqD (ds.getD j .non) (es.getD j .non)) && its.toArray.size == its2.toArray.size) = eqL ds es := by
      by_cases hl : ds.length = es.length
      · rw [eqL_all ds es hl, l1, l2, hl]
        simp
      · rw [eqL_ne hl, l1, l2]
        simp [hl]
    rw [key] at main
    exact main
  case lst.tup ds es =>
    obtain ⟨a, xs, rfl, a1, a2⟩ := r1
    obtain ⟨b, ys, rfl, b1, b2⟩ := r2
    cases q1
    cases q2
    obtain ⟨its, t1, t2, _⟩ := I.list (.inl (fz.rd nz a1))
    obtain ⟨its2, t3, t4, _⟩ := I.tuple (sqT_mono fz nz b1)
    exact RcNeAt.list_tuple t2.isList t4 hu0
  case tup.lst ds es =>
    obtain ⟨a, xs, rfl, a1, a2⟩ := r1
    obtain ⟨b, ys, rfl, b1, b2⟩ := r2
    cases q1
    cases q2
    obtain ⟨its, t1, t2, _⟩ := I.tuple (sqT_mono fz nz a1)
    obtain ⟨its2, t3, t4, _⟩ := I.list (.inl (fz.rd nz b1))
    exact RcNeAt.tuple_list t2 t4.isList hu0
  case lst.non => exact lstf r1 rfl r2
  case tup.non => exact tupf r1 rfl r2
  case non.lst => exact flst r1 rfl r2
  case non.tup => exact ftup r1 rfl r2
  case lst.bl => exact lstf r1 rfl r2
  case tup.bl => exact tupf r1 rfl r2
  case bl.lst => exact flst r1 rfl r2
  case bl.tup => exact ftup r1 rfl r2
  case lst.int => exact lstf r1 rfl r2
  case tup.int => exact tupf r1 rfl r2
  case int.lst => exact flst r1 rfl r2
  case int.tup => exact ftup r1 rfl r2
  case lst.str => exact lstf r1 rfl r2
  case tup.str => exact tupf r1 rfl r2
  case str.lst => exact flst r1 rfl r2
  case str.tup => exact ftup r1 rfl r2
  all_goals exact flat rfl rfl r1 r2
/-- == and != of plain data -/
def rEqP (K : PySem.W.Frag) (neg : Bool) : R2 := fun x y H Q => ∃ (n : Nat) (G : Hp) (d e : D), Exz G H ∧ Nz G ∧ n ≤ 60 ∧ pl (n + 1) d = true ∧ pl (n + 1) e = true ∧ Rp K G d x ∧ Rp K G e y ∧ Q (.bl (if neg then !eqD d e else eqD d e)) H
theorem op_eqP (hu : X.A.units + 64 < cLine) : OpR X (compareOp .Eq) (rEqP X.K false) := by
  intro pins s sg H x y v u Q I rx ry h
  obtain ⟨n, G, d, e, fz, nz, hn, p1, p2, r1, r2, q⟩ := h
  exact rc_D I fz nz n d e X.A x y v u p1 p2 r1 r2 rx ry (by omega) X.prog X.w X.xe _ ⟨.bl _, H, I, rfl, q⟩
theorem op_neP (hu : X.A.units + 64 < cLine) : OpR X (compareOp .NotEq) (rEqP X.K true) := by
  intro pins s sg H x y v u Q I rx ry h
  obtain ⟨n, G, d, e, fz, nz, hn, p1, p2, r1, r2, q⟩ := h
  exact rn_D I fz nz n d e X.A x y v u p1 p2 r1 r2 rx ry (by omega) X.prog X.w X.xe _ ⟨.bl _, H, I, rfl, q⟩
end
/-! ### by data -/
/-- w stands for the plain data d -/
inductive Pk (ka : Cells) : W → D → Prop where
  | v {d} : Pk ka (.val d) d
  | w {d} : Pk ka (.vw d) d
  | c {a ds} (j : Nat) (h : ka[j]? = some (a, .lst ds)) : Pk ka (.val (.adr a)) (.lst ds)
section
variable {K : PySem.W.Frag} {B F F0 : Hp} {ro : Ro} {ka : Cells} {ta : List (V × W)} {sg : L2.St} {H : Hp} {x y : W}
/-- what may be read with the cells' lists beside -/
def gH (H : Hp) : Hp := fun a => match H a with
  | some (.frz _ u) => if lk u then some u else none
  | z => z
theorem gH_nz : Nz (gH H) := fun a u h => by
  unfold gH at h
  split at h
  · split at h
    · rename_i hx
      cases h
      cases u <;> first | rfl | cases hx
    · cases h
  · rename_i z q
    cases u with
    | frz ob z => exact absurd h (q ob z)
    | _ => rfl
theorem gH_exz : Exz (gH H) H := fun a u h => by
  unfold gH at h
  split at h
  · rename_i ob x q
    split at h
    · rename_i hx
      cases h
      exact .inr ⟨hx, ob, q⟩
    · cases h
  · exact .inl h
theorem exz_gH {G : Hp} (e : Exz G H) (n : Nz G) : Exz G (gH H) := fun a u h => by
  refine .inl ?_
  have hu := n a u h
  unfold gH
  rcases e a u h with q | ⟨k, o, q⟩
  · rw [q]
    cases u with
    | frz o z => cases hu
    | _ => rfl
  · rw [q]
    show (if lk u then some u else none) = some u
    rw [k]
    rfl
theorem Pk.get {d : D} {v : V} (l : Pk ka x d) (e : EnF K B F ro ka ta sg H) (h : WOk K B F v x) : Rp K (gH H) d v := by
  cases l with
  | v => exact Rp.mono (exz_gH e.fz e.nz) e.nz d v h
  | w => exact Rp.mono (exz_gH (uni_exz e.fz e.fr) (uni_nz e.nz)) (uni_nz e.nz) d v h
  | @c a ds j hj =>
    obtain ⟨_, _, xs, h1, h2⟩ := e.ce _ (List.mem_of_getElem? hj)
    have hv : v = .ref a := h
    refine ⟨a, xs, hv, .inl ?_, RpL.mono (exz_gH e.fz e.nz) e.nz _ _ h2⟩
    unfold gH
    rw [h1]
theorem rv_eqP {d e : D} (l1 : Pk ka x d) (l2 : Pk ka y e) (p1 : pl 61 d = true) (p2 : pl 61 e = true) : RvD K (rEqP K false) ka x y (.val (.bl (eqD d e))) := fun B F0 ro ta sg H u v Q en h1 h2 q => by
  obtain ⟨F, g, ef⟩ := id en
  exact ⟨60, gH H, d, e, gH_exz, gH_nz, Nat.le_refl _, p1, p2, l1.get ef (ef.tm _ h1), l2.get ef (ef.tm _ h2), q _ _ (en.push_imm fun _ => rfl)⟩
theorem rv_neP {d e : D} (l1 : Pk ka x d) (l2 : Pk ka y e) (p1 : pl 61 d = true) (p2 : pl 61 e = true) : RvD K (rEqP K true) ka x y (.val (.bl (!eqD d e))) := fun B F0 ro ta sg H u v Q en h1 h2 q => by
  obtain ⟨F, g, ef⟩ := id en
  exact ⟨60, gH H, d, e, gH_exz, gH_nz, Nat.le_refl _, p1, p2, l1.get ef (ef.tm _ h1), l2.get ef (ef.tm _ h2), q _ _ (en.push_imm fun _ => rfl)⟩
end
end DL

/-! DO: operators that a class of the text defines (own work). -/
namespace DL
open PySem L2 PySem.W

section
variable {X : Cx} {CX : CXT} {k : Nat} {C f : Addr} {fd : FuncData} {ps : List Str} {sp : Sp} {E : XK}
/-- the type of a value, as the library looks for it -/
def TyL (X : Cx) (x : V) (H : Hp) (T : String) : Prop := ∀ pins s sg u, Inv X pins sg H s → RelV x u → Looks (model X.prog X.w) s.heap (typeOf u) (.type T)
/-! ### == and != by the class's own __eq__ -/
/-- a type against which x's class goes first: a built-in one, or the class itself -/
inductive TyE (X : Cx) (C : Addr) (H : Hp) : V → Prop where
  | ty {y : V} {T : String} (h : TyL X y H T) (s : subIn X.K (.type T) (.ref C) = some false) : TyE X C H y
  | own {a dx : Addr} {fs : List (Str × V)} (h : H a = some (.ins C dx fs)) : TyE X C H (.ref a)
end
end DL

/-! DF: defs by contract, instances, exceptions by data (own work). -/
namespace DL
open PySem L2 PySem.W

/-! ### defs -/
/-- the def at f keeps the contract C -/
def Fn (P : Program) (w : World) (K : PySem.W.Frag) (mg : Str → Option Value) (base : Heap) (k : Nat) (f : Addr) (ps : List Str) (C : Ct) : Prop := ∃ fd, FnOk P w K mg base (L2.CX P w) k f fd ps (spC K C) ∧ Binds K fd ps []
section
variable {P : Program} {w : World} {K : PySem.W.Frag} {mg : Str → Option Value} {base : Heap} {f : Addr} {fd : FuncData} {x qual : Str} {params : Arguments} {body : List Stmt} {scope : Scope} {ps N : List Str} {k j : Nat} {C : Ct}
theorem Fn.up (F : Fn P w K mg base j f ps C) (h : j ≤ k) : Fn P w K mg base k f ps C := let ⟨fd, a, b⟩ := F; ⟨fd, a.mono h, b⟩
theorem fn_okG {dvs : List V} (F : FunD K x qual params body scope dvs [] f fd) (S : FnScope N ps scope)
    (hl : ∀ ws ka out, C ws ka out → ws.length = ps.length)
    (h : ∀ (cdv : Value) (A : Around) (outer : List Env) (s : Shared) (H : Hp) (E : XK), Room k (A.deeper (PyProof.Rows.envOfC qual scope s.heap.objs.size f cdv)) →
      ∃ t, PSs (cxOf (L2.CX P w) P w K mg base N qual scope f cdv A outer s H E) body t ∧
        ∀ ws ka out B F0 Q, C ws ka out → RtOk K B F0 out Q → RxOk K B F0 out E → Gp K B F0 [] (t { nx := fun _ H' => Q .non H', rt := Q }) (ws.map some ++ List.replicate (N.length - ps.length) none) ka) : FnOk P w K mg base (L2.CX P w) (k + 1) f fd ps (spC K C) := by
  refine (F.ok S (fun vs H Q E h => ?_) (fun cdv A outer s H vs Q E hr hs => ?_))
  · obtain ⟨B, F', ws, ka, out, hC, l, _⟩ := h
    rw [l]
    exact hl _ _ _ hC
  · obtain ⟨t, d, p⟩ := h cdv A outer s H E hr
    obtain ⟨B, F0, ws, ka, out, hC, l, ⟨F1, g1, en⟩, hR, hX⟩ := hs
    refine ⟨t, d, p ws ka out B F0 Q hC hR hX _ H ⟨F1, g1, ?_⟩⟩
    have hw := hl _ _ _ hC
    refine (en.frame (ro' := ws.map some ++ List.replicate (N.length - ps.length) none) (sg' := L2.start N vs) ?_ fun i w2 e => ?_).held fun p hp => by cases hp
    · unfold L2.start
      rw [List.length_append, List.length_append, List.length_map, List.length_map, List.length_replicate, List.length_replicate, l, hw]
    · unfold L2.start
      by_cases hi : i < ws.length
      · rw [List.getElem?_append_left (by rw [List.length_map]; exact hi), List.getElem?_map, List.getElem?_eq_getElem hi] at e
        have e' : ws[i] = w2 := by simpa using e
        rw [List.getElem?_append_left (by rw [List.length_map, l]; exact hi), List.getElem?_map, List.getElem?_eq_getElem (by rw [l]; exact hi)]
        refine ⟨vs[i], rfl, ?_⟩
        have := en.tm (vs[i]'(by rw [l]; exact hi), ws[i]) (by
          have hz : (vs.zip ws)[i]? = some (vs[i]'(by rw [l]; exact hi), ws[i]) := by
            rw [List.getElem?_zip_eq_some]
            exact ⟨List.getElem?_eq_getElem _, List.getElem?_eq_getElem _⟩
          exact List.mem_of_getElem? hz)
        rw [e'] at this
        exact this
      · rw [List.getElem?_append_right (by rw [List.length_map]; omega), List.getElem?_replicate] at e
        split at e <;> cases e
theorem fn_okF (F : FunD K x qual params body scope [] [] f fd) (S : FnScope N ps scope)
    (hb : ∀ (kV doc pm : Value) (an : Option Addr) (cdv ct : Value) (us : List Value), us.length = ps.length → bindArgs (PySem.W.fnOf x qual params body scope .none kV doc pm an cdv ct) ⟨us, []⟩ = pure (ps.zip us))
    (hl : ∀ ws ka out, C ws ka out → ws.length = ps.length)
    (h : ∀ (cdv : Value) (A : Around) (outer : List Env) (s : Shared) (H : Hp) (E : XK), Room k (A.deeper (PyProof.Rows.envOfC qual scope s.heap.objs.size f cdv)) →
      ∃ t, PSs (cxOf (L2.CX P w) P w K mg base N qual scope f cdv A outer s H E) body t ∧
        ∀ ws ka out B F0 Q, C ws ka out → RtOk K B F0 out Q → RxOk K B F0 out E → Gp K B F0 [] (t { nx := fun _ H' => Q .non H', rt := Q }) (ws.map some ++ List.replicate (N.length - ps.length) none) ka) : FnOk P w K mg base (L2.CX P w) (k + 1) f fd ps (spC K C) := fn_okG F S hl h
theorem fn_ok (F : FunD K x qual params body scope [] [] f fd) (S : FnScope N ps scope)
    (hb : ∀ (kV doc pm : Value) (an : Option Addr) (cdv ct : Value) (us : List Value), us.length = ps.length → bindArgs (PySem.W.fnOf x qual params body scope .none kV doc pm an cdv ct) ⟨us, []⟩ = pure (ps.zip us))
    (hl : ∀ ws ka out, C ws ka out → ws.length = ps.length)
    (h : ∀ (cdv : Value) (A : Around) (outer : List Env) (s : Shared) (H : Hp) (E : XK), Room k (A.deeper (PyProof.Rows.envOfC qual scope s.heap.objs.size f cdv)) →
      ∃ t, PSs (cxOf (L2.CX P w) P w K mg base N qual scope f cdv A outer s H E) body t ∧
        ∀ ws ka out B F0 Q, C ws ka out → RtOk K B F0 out Q → RxOk K B F0 out E → Gp K B F0 [] (t { nx := fun _ H' => Q .non H', rt := Q }) (ws.map some ++ List.replicate (N.length - ps.length) none) ka) : Fn P w K mg base (k + 1) f ps C := ⟨fd, fn_okF F S hb hl h, F.bindsN hb⟩
end
/-- the def behind a contract, and what is known of it -/
noncomputable def Fn.fd {P : Program} {w : World} {K : PySem.W.Frag} {mg : Str → Option Value} {base : Heap} {k : Nat} {f : Addr} {ps : List Str} {C : Ct} (F : Fn P w K mg base k f ps C) : FuncData := Classical.choose F
theorem Fn.ok {P : Program} {w : World} {K : PySem.W.Frag} {mg : Str → Option Value} {base : Heap} {k : Nat} {f : Addr} {ps : List Str} {C : Ct} (F : Fn P w K mg base k f ps C) : FnOk P w K mg base (L2.CX P w) k f F.fd ps (spC K C) := (Classical.choose_spec F).1
theorem Fn.bn {P : Program} {w : World} {K : PySem.W.Frag} {mg : Str → Option Value} {base : Heap} {k : Nat} {f : Addr} {ps : List Str} {C : Ct} (F : Fn P w K mg base k f ps C) : Binds K F.fd ps [] := (Classical.choose_spec F).2
section
variable {X : Cx}
theorem passes_no : Passes (L2.CX X.prog X.w) X (fun _ _ _ => False) := fun _ _ _ _ _ _ _ ⟨_, _, _, _, _, _, _, _, _, _, _, _, z⟩ => z.elim
end
end DL

/-! DG: instances by data (own work). -/
namespace DL
open PySem L2 PySem.W

section
variable {K : PySem.W.Frag} {B F F0 : Hp} {ro : Ro} {ka k1 k2 k3 kr : Cells} {ta : List (V × W)} {sg : L2.St} {H H' : Hp} {te tf tg : TE} {tr : TA} {tt : TT} {w x y z : W} {n : Nd} {C dx a : Addr} {fs : List (Str × D)} {b : Bool}

theorem rpf_lookup {F : Hp} : ∀ {fs : List (Str × D)} {xs : List (Str × V)} {f : Str} {d : D}, RpF K F fs xs → fs.lookup f = some d → ∃ v, xs.lookup f = some v ∧ Rp K F d v
  | [], _, _, _, _, e => by cases e
  | (g, d0) :: fs, xs, f, d, h, e => by
    obtain ⟨x, ys, rfl, h1, h2⟩ := h
    unfold List.lookup at e ⊢
    cases q : (f == g) with
    | true =>
      rw [q] at e
      cases e
      exact ⟨x, rfl, h1⟩
    | false =>
      rw [q] at e
      exact rpf_lookup h2 e
theorem rpf_none {F : Hp} : ∀ {fs : List (Str × D)} {xs : List (Str × V)} {f : Str}, RpF K F fs xs → fs.lookup f = none → xs.lookup f = none
  | [], xs, f, h, _ => by rw [show xs = [] from h]; rfl
  | (g, d0) :: fs, xs, f, h, e => by
    obtain ⟨x, ys, rfl, h1, h2⟩ := h
    unfold List.lookup at e ⊢
    cases q : (f == g) with
    | true => rw [q] at e; cases e
    | false => rw [q] at e; exact rpf_none h2 e
/-- w is an instance of the class at C with the fields fs; b: viewed -/
inductive Io (ka : Cells) : W → Addr → List (Str × D) → Bool → Prop where
  | v {D1 : Addr} {gs : List (Str × D)} : Io ka (.val (.ins D1 gs)) D1 gs false
  | w {D1 : Addr} {gs : List (Str × D)} : Io ka (.vw (.ins D1 gs)) D1 gs true
  | c {p D1 : Addr} {gs : List (Str × D)} (j : Nat) (h : ka[j]? = some (p, .ins D1 gs)) : Io ka (.val (.adr p)) D1 gs false
theorem rd_ins {H : Hp} {dx : Addr} {xs : List (Str × V)} (n : Nz F) (e : Exz F H) (h : Rd F a (.ins C dx xs)) : H a = some (.ins C dx xs) := by
  rcases h with h | ⟨o, h⟩
  · exact e.at h rfl
  · have := n a _ h
    cases this
/-- the built-in type of a value, by the abstract heap -/
inductive TyV (K : PySem.W.Frag) (H : Hp) : V → String → Prop where
  | non : TyV K H .non "NoneType"
  | bl {b : Bool} : TyV K H (.bl b) "bool"
  | int {b : Int} : TyV K H (.int b) "int"
  | str {b : Str} : TyV K H (.str b) "str"
  | lst {a : Addr} {xs : List V} (h : SqL K H a xs) : TyV K H (.ref a) "list"
  | tup {a : Addr} {xs : List V} (h : SqT K H a xs) : TyV K H (.ref a) "tuple"
inductive TyE2 (K : PySem.W.Frag) (C : Addr) (H : Hp) : V → Prop where
  | ty {y : V} {T : String} (h : TyV K H y T) (s : subIn K (.type T) (.ref C) = some false) : TyE2 K C H y
  | own {a dx : Addr} {gs : List (Str × V)} (h : H a = some (.ins C dx gs)) : TyE2 K C H (.ref a)
theorem Io.get {v : V} (l : Io ka w C fs b) (e : EnF K B F ro ka ta sg H) (h : WOk K B F v w) : ∃ a dx xs, v = .ref a ∧ H a = some (.ins C dx xs) ∧ RpF K (if b then uni B F else F) fs xs := by
  cases l with
  | v =>
    obtain ⟨a, dx, xs, rfl, h1, h2⟩ := h
    exact ⟨a, dx, xs, rfl, rd_ins e.nz e.fz h1, h2⟩
  | w =>
    obtain ⟨a, dx, xs, rfl, h1, h2⟩ := h
    exact ⟨a, dx, xs, rfl, rd_ins (uni_nz e.nz) (uni_exz e.fz e.fr) h1, h2⟩
  | @c a C fs j hj =>
    obtain ⟨_, _, dx, xs, h1, h2⟩ := e.ce _ (List.mem_of_getElem? hj)
    exact ⟨a, dx, xs, h, h1, h2⟩
theorem Io.en {v : V} (l : Io ka w C fs b) (e : En K B F0 ro ka ta sg H) (h : (v, w) ∈ ta) : ∃ a dx xs, v = .ref a ∧ H a = some (.ins C dx xs) := by
  obtain ⟨F, g, e⟩ := e
  obtain ⟨a, dx, xs, h1, h2, _⟩ := l.get e (e.tm _ h)
  exact ⟨a, dx, xs, h1, h2⟩
/-- o.f, a field -/
theorem ev_fld {f : Str} {d : D} (h : EvD K te ro ka w k1) (l : Io k1 w C fs b) (c : Cls K C) (nf : NoAttr K C f) (hd : fs.lookup f = some d) : EvD K (tFld K te f) ro ka (part b d) k1 := fun B F0 ta sg H Q e q => h B F0 ta sg H _ e fun v H1 e1 => by
  obtain ⟨F, g, e1⟩ := e1
  obtain ⟨a, dx, xs, rfl, h1, h2⟩ := l.get e1 (e1.tm _ List.mem_cons_self)
  obtain ⟨v, h3, h4⟩ := rpf_lookup h2 hd
  refine ⟨a, C, dx, xs, v, rfl, h1, c, nf, h3, q v H1 ⟨F, g, ?_⟩⟩
  exact (e1.held (ta' := ta) fun p hp => List.mem_cons_of_mem _ hp).push (wok_part b h4)

/-! ### calls by contract: how they end -/
/-- the call ends with an exception of the class C1 -/
theorem sp_exc {Cc : Ct} {ws : List W} {out : Out → Cells → Prop} {vs : List V} {E : XK} {Q : VK} {C1 : Addr} {fs : List (Str × D)} (e : En K B F0 ro (ka ++ kr) (vs.zip ws ++ ta) sg H) (hl : vs.length = ws.length) (hC : Cc ws ka out) (ho : ∀ o k, out o k → o = .exc C1 fs ∧ k = k2)
    (q : ∀ dx H', En K B F0 ro (k2 ++ [(dx, .xd fs)] ++ kr) ta sg H' → E (.ref C1) (some dx) H') : spC K Cc vs H Q E := by
  obtain ⟨F, g, e⟩ := e
  refine ⟨off H ka, F, ws, ka, out, hC, hl, ⟨F, Gr.refl _ _, e.into (ro' := []) (sg' := []) (ta' := vs.zip ws) rfl (fun i w h => by simp at h) fun p hp => List.mem_append_left _ hp⟩, fun d' k v H' o _ => ?_, fun C fs k dx H' o ⟨F', g', e'⟩ => ?_, fun C k H' o _ => ?_⟩
  · have := (ho _ _ o).1
    cases this
  · obtain ⟨hd, rfl⟩ := ho _ _ o
    cases hd
    obtain ⟨g2, e2⟩ := e.back g' e' (tb := ta) fun p hp => .inl (List.mem_append_right _ hp)
    exact q dx H' ⟨F', g.trans g2, e2⟩
  · have := (ho _ _ o).1
    cases this
theorem sp_exc0 {Cc : Ct} {ws : List W} {out : Out → Cells → Prop} {vs : List V} {E : XK} {Q : VK} {C1 : Addr} (e : En K B F0 ro (ka ++ kr) (vs.zip ws ++ ta) sg H) (hl : vs.length = ws.length) (hC : Cc ws ka out) (ho : ∀ o k, out o k → o = .exc0 C1 ∧ k = k2)
    (q : ∀ H', En K B F0 ro (k2 ++ kr) ta sg H' → E (.ref C1) none H') : spC K Cc vs H Q E := by
  obtain ⟨F, g, e⟩ := e
  refine ⟨off H ka, F, ws, ka, out, hC, hl, ⟨F, Gr.refl _ _, e.into (ro' := []) (sg' := []) (ta' := vs.zip ws) rfl (fun i w h => by simp at h) fun p hp => List.mem_append_left _ hp⟩, fun d' k v H' o _ => ?_, fun C fs k dx H' o _ => ?_, fun C k H' o ⟨F', g', e'⟩ => ?_⟩
  · have := (ho _ _ o).1
    cases this
  · have := (ho _ _ o).1
    cases this
  · obtain ⟨hd, rfl⟩ := ho _ _ o
    cases hd
    obtain ⟨g2, e2⟩ := e.back g' e' (tb := ta) fun p hp => .inl (List.mem_append_right _ hp)
    exact q H' ⟨F', g.trans g2, e2⟩
/-- the call comes back with a new cell -/
theorem sp_new {Cc : Ct} {ws : List W} {out : Out → Cells → Prop} {vs : List V} {E : XK} {Q : VK} {m : Nd} (e : En K B F0 ro (ka ++ kr) (vs.zip ws ++ ta) sg H) (hl : vs.length = ws.length) (hC : Cc ws ka out) (ho : ∀ o k, out o k → ∃ a, o = .ret (.adr a) ∧ k = k2 ++ [(a, m)])
    (q : ∀ a H', En K B F0 ro (k2 ++ kr ++ [(a, m)]) ta sg H' → Q (.ref a) H') : spC K Cc vs H Q E := by
  obtain ⟨F, g, e⟩ := e
  refine ⟨off H ka, F, ws, ka, out, hC, hl, ⟨F, Gr.refl _ _, e.into (ro' := []) (sg' := []) (ta' := vs.zip ws) rfl (fun i w h => by simp at h) fun p hp => List.mem_append_left _ hp⟩, fun d' k v H' o ⟨F', g', e'⟩ => ?_, fun C fs k dx H' o _ => ?_, fun C k H' o _ => ?_⟩
  · obtain ⟨a, hd, rfl⟩ := ho _ _ o
    cases hd
    have hv : v = .ref a := e'.tm (v, .val (.adr a)) List.mem_cons_self
    subst hv
    obtain ⟨g2, e2⟩ := e.back g' e' (tb := ta) fun p hp => .inl (List.mem_append_right _ hp)
    refine q a H' ⟨F', g.trans g2, e2.perm ?_⟩
    rw [List.append_assoc, List.append_assoc]
    exact List.Perm.append_left _ List.perm_append_comm
  · obtain ⟨a, z, _⟩ := ho _ _ o
    cases z
  · obtain ⟨a, z, _⟩ := ho _ _ o
    cases z
theorem evn_call {Cc : Ct} {ws : List W} {out : Out → Cells → Prop} {E : XK} {m : Nd} (kr : Cells) (ha : EvA K tr ro ka ws (k1 ++ kr)) (hC : Cc ws k1 out) (ho : ∀ o k, out o k → ∃ a, o = .ret (.adr a) ∧ k = k2 ++ [(a, m)]) : EvN K (tCall (spC K Cc) [] E tr) ro ka m (k2 ++ kr) := fun B F0 ta sg H Q e q =>
  ha B F0 ta sg H _ e fun vs H1 hl e1 => by
    rw [List.append_nil]
    exact sp_new e1 hl hC ho q
/-- o.f, a property -/
theorem ev_prop {Cc : Ct} {out : Out → Cells → Prop} {E : XK} {d : D} (kr : Cells) (h : EvD K te ro ka w (k1 ++ kr)) (l : Io (k1 ++ kr) w C fs b) (hC : Cc [w] k1 out) (ho : ∀ o k, out o k → o = .ret d ∧ k = k1) : EvD K (tProp C (spC K Cc) [] E te) ro ka (.val d) (k1 ++ kr) := fun B F0 ta sg H Q e q => h B F0 ta sg H _ e fun u H1 e1 => by
  obtain ⟨a, dx, xs, rfl, ha⟩ := l.en e1 List.mem_cons_self
  exact ⟨a, dx, xs, rfl, ha, sp_ret (vs := [.ref a]) (ws := [w]) (ta := ta) e1 rfl hC ho q⟩
/-- own == own, own != own, or a built-in's value -/
inductive Eo (ka : Cells) : W → Addr → Prop where
  | io {u : W} {D1 : Addr} {gs : List (Str × D)} {b1 : Bool} (l : Io ka u D1 gs b1) : Eo ka u D1
  | non {D1 : Addr} : Eo ka (.val .non) D1
  | bl {b1 : Bool} {D1 : Addr} : Eo ka (.val (.bl b1)) D1
  | int {b1 : Int} {D1 : Addr} : Eo ka (.val (.int b1)) D1
  | str {b1 : Str} {D1 : Addr} : Eo ka (.val (.str b1)) D1
  | sq {u : W} {t b1 : Bool} {ds : List D} {D1 : Addr} (l : Lk ka u t ds b1) : Eo ka u D1
theorem Eo.at {u : V} (hT : EqT K C) (l : Eo ka y C) (e : En K B F0 ro ka ta sg H) (h : (u, y) ∈ ta) : TyE2 K C H u := by
  cases l with
  | io l =>
    obtain ⟨a, dx, xs, rfl, ha⟩ := l.en e h
    exact .own ha
  | non =>
    obtain rfl := e.tm_non h
    exact .ty .non (hT _ (by simp))
  | bl =>
    obtain rfl := e.tm_bl h
    exact .ty .bl (hT _ (by simp))
  | int =>
    obtain rfl := e.tm_int h
    exact .ty .int (hT _ (by simp))
  | str =>
    obtain rfl := e.tm_str h
    exact .ty .str (hT _ (by simp))
  | @sq x t ds b C l =>
    obtain ⟨F, g, e⟩ := e
    obtain ⟨a, xs, rfl, h1, _⟩ := l.get e (e.tm _ h)
    cases t with
    | false => exact .ty (.lst (.inl h1)) (hT _ (by simp))
    | true => exact .ty (.tup h1) (hT _ (by simp))
/-- own << other and the like: the other of a built-in type -/
structure TyWf (K : PySem.W.Frag) (C : Addr) (op : Operator) (ka : Cells) (y : W) : Prop where
  at_ : ∀ B F0 ro ta sg H u, En K B F0 ro ka ta sg H → (u, y) ∈ ta → ∃ T, TyV K H u T ∧ BoT K C op T
end
end DL

/-! DH: making objects, isinstance, conversions, exceptions by data (own work). -/
namespace DL
open PySem L2 PySem.W

section
variable {K : PySem.W.Frag} {B F F0 : Hp} {ro : Ro} {ka k1 k2 k3 kr : Cells} {ta : List (V × W)} {sg : L2.St} {H H' : Hp} {te tf tg : TE} {tr : TA} {tt : TT} {w x y z : W} {n : Nd} {C dx a : Addr} {fs : List (Str × D)} {b : Bool} {P : L2.St → Hp → Prop}

/-! ### an instance cell, frozen -/
theorem En.freeze_i (e : En K B F0 ro (ka ++ [(a, .ins C fs)]) ta sg H) : En K B F0 ro ka ((.ref a, .val (.ins C fs)) :: ta) sg H := by
  obtain ⟨F, g, e⟩ := e
  obtain ⟨fa, ba, dx, xs, ha, rl⟩ := e.ce (a, .ins C fs) (by simp)
  have gg : Gr B F (upd F a (.ins C dx xs)) := ⟨Sub.new fa, fun b h1 h2 => by
    have ne : b ≠ a := fun q => h2 (q ▸ ba)
    rw [upd_ne ne]
    exact h1⟩
  have nd2 := e.nd
  rw [List.map_append, List.nodup_append] at nd2
  refine ⟨upd F a (.ins C dx xs), g.trans gg, ⟨fun b u h => ?_, fun b u h => ?_, e.fr, nd2.1, fun q hq => ?_, e.ln, fun i w h => ?_, fun q hq => ?_⟩⟩
  · by_cases hb : b = a
    · subst hb; rw [upd_same] at h; cases h; rfl
    · rw [upd_ne hb] at h; exact e.nz b u h
  · by_cases hb : b = a
    · subst hb; rw [upd_same] at h; cases h; exact .inl ha
    · rw [upd_ne hb] at h; exact e.fz b u h
  · obtain ⟨h1, h2, h3⟩ := e.ce q (List.mem_append_left _ hq)
    have nq : q.1 ≠ a := fun z => nd2.2.2 q.1 (List.mem_map.mpr ⟨q, hq, rfl⟩) a (by simp) z
    exact ⟨by rw [upd_ne nq]; exact h1, h2, ndok_gr e.nz gg h3⟩
  · obtain ⟨v, h1, h2⟩ := e.sl i w h
    exact ⟨v, h1, wok_gr e.nz gg h2⟩
  · rcases List.mem_cons.mp hq with rfl | hq
    · exact ⟨a, dx, xs, rfl, .inl upd_same, RpF.mono gg.sub.exz e.nz _ _ rl⟩
    · exact wok_gr e.nz gg (e.tm q hq)
theorem EvN.ins {fs : List (Str × D)} (h : EvN K te ro ka (.ins C fs) k1) : EvD K te ro ka (.val (.ins C fs)) k1 := fun B F0 ta sg H Q e q => h B F0 ta sg H Q e fun a H1 e1 => q _ _ e1.freeze_i
/-- fewer cells -/
theorem En.less (e : En K B F0 ro ka ta sg H) (h : k1.Sublist ka) : En K B F0 ro k1 ta sg H := let ⟨F, g, q⟩ := e; ⟨F, g, q.cells h⟩
theorem EvD.less (h : EvD K te ro ka w k1) (s : k2.Sublist k1) : EvD K te ro ka w k2 := fun B F0 ta sg H Q e q => h B F0 ta sg H Q e fun v H1 e1 => q v H1 (e1.less s)
theorem Gp.less (h : Gp K B F0 ta P ro k1) (s : k1.Sublist ka) : Gp K B F0 ta P ro ka := fun sg H e => h sg H (e.less s)
/-! ### C(e, ..) -/
/-- C(..): __init__ by contract; a new cell -/
theorem evn_make {Cc : Ct} {ws : List W} {E : XK} {m : Nd} (ha : EvA K tr ro ka ws k1)
    (hC : ∀ a, ∃ out, Cc (.val (.adr a) :: ws) (k1 ++ [(a, .ins C [])]) out ∧ ∀ o k, out o k → o = .ret .non ∧ k = k2 ++ [(a, m)]) : EvN K (tMake C (spC K Cc) [] E tr) ro ka m k2 := fun B F0 ta sg H Q e q =>
  ha B F0 ta sg H _ e fun vs H1 hl e1 => by
    intro x dx hx hd hne
    rw [List.append_nil]
    obtain ⟨F, g, e1⟩ := e1
    obtain ⟨e2, g2⟩ := e1.lay (o := .own x) hd rfl
    have hx2 : upd H1 dx (.own x) x = none := by rw [upd_ne (Ne.symm hne)]; exact hx
    have e3 := e2.cell (o := .ins C dx []) hx2 (n := .ins C []) ⟨dx, [], upd_same, rfl⟩
    have e4 := e3.push (v := .ref x) (w := .val (.adr x)) rfl
    obtain ⟨out, hC, ho⟩ := hC x
    have e5 : En K B F0 ro ((k1 ++ [(x, .ins C [])]) ++ []) ((V.ref x :: vs).zip (W.val (.adr x) :: ws) ++ ta) sg (upd (upd H1 dx (.own x)) x (.ins C dx [])) := by
      rw [List.append_nil]
      exact ⟨_, g.trans g2, e4⟩
    refine sp_ret (k2 := k2 ++ [(x, m)]) e5 (by rw [List.length_cons, List.length_cons, hl]) hC ho fun v H' e6 => ?_
    rw [List.append_nil] at e6
    exact ⟨e6.tm_non List.mem_cons_self, q x H' e6.pop⟩
theorem evx_make {Cc : Ct} {ws : List W} {E : XK} {C1 : Addr} {gs : List (Str × D)} {Q : VK} (ha : EvA K tr ro ka ws k1)
    (hC : ∀ a, ∃ out, Cc (.val (.adr a) :: ws) (k1 ++ [(a, .ins C [])]) out ∧ ∀ o k, out o k → o = .exc C1 gs ∧ k = k2)
    (e : En K B F0 ro ka ta sg H) (q : ∀ dx H', En K B F0 ro (k2 ++ [(dx, .xd gs)]) ta sg H' → E (.ref C1) (some dx) H') : tMake C (spC K Cc) [] E tr sg H Q :=
  ha B F0 ta sg H _ e fun vs H1 hl e1 => by
    intro x dx hx hd hne
    rw [List.append_nil]
    obtain ⟨F, g, e1⟩ := e1
    obtain ⟨e2, g2⟩ := e1.lay (o := .own x) hd rfl
    have hx2 : upd H1 dx (.own x) x = none := by rw [upd_ne (Ne.symm hne)]; exact hx
    have e3 := e2.cell (o := .ins C dx []) hx2 (n := .ins C []) ⟨dx, [], upd_same, rfl⟩
    have e4 := e3.push (v := .ref x) (w := .val (.adr x)) rfl
    obtain ⟨out, hC, ho⟩ := hC x
    have e5 : En K B F0 ro ((k1 ++ [(x, .ins C [])]) ++ []) ((V.ref x :: vs).zip (W.val (.adr x) :: ws) ++ ta) sg (upd (upd H1 dx (.own x)) x (.ins C dx [])) := by
      rw [List.append_nil]
      exact ⟨_, g.trans g2, e4⟩
    refine sp_exc e5 (by rw [List.length_cons, List.length_cons, hl]) hC ho fun dx H' e6 => ?_
    rw [List.append_nil] at e6
    exact q dx H' e6
/-- self.f = e, self a cell -/
def putD (f : Str) (v : D) : List (Str × D) → List (Str × D)
  | [] => [(f, v)]
  | (g, x) :: r => if g = f then (g, v) :: r else (g, x) :: putD f v r
theorem rpf_put {F : Hp} {f : Str} {v : V} {d : D} (hv : Rp K F d v) : ∀ {fs : List (Str × D)} {xs : List (Str × V)}, RpF K F fs xs → RpF K F (putD f d fs) (putF f v xs)
  | [], xs, h => by rw [show xs = [] from h]; exact ⟨v, [], rfl, hv, rfl⟩
  | (g, d0) :: fs, xs, h => by
    obtain ⟨x, ys, rfl, h1, h2⟩ := h
    unfold putD putF
    by_cases q : g = f
    · rw [if_pos q, if_pos q]
      exact ⟨v, ys, rfl, hv, h2⟩
    · rw [if_neg q, if_neg q]
      exact ⟨x, _, rfl, h1, rpf_put hv h2⟩
theorem rpf_len {F : Hp} : ∀ {fs : List (Str × D)} {xs : List (Str × V)}, RpF K F fs xs → xs.length = fs.length
  | [], xs, h => by rw [show xs = [] from h]; rfl
  | _ :: fs, xs, h => by
    obtain ⟨x, ys, rfl, _, h2⟩ := h
    rw [List.length_cons, List.length_cons, rpf_len h2]
theorem g_fld {f : Str} {d : D} {j : Nat} {De : Ends} (hv : EvD K tf ro ka (.val d) k1) (ho : EvD K te ro k1 (.val (.adr a)) k2) (hj : k2[j]? = some (a, .ins C fs)) (c : Cls K C) (nf : NoAttr K C f) (hz : fs.length < 900)
    (k : Gp K B F0 ta De.nx ro (k2.set j (a, .ins C (putD f d fs)))) : Gp K B F0 ta (sFld K te tf f De) ro ka := fun sg H e => hv B F0 ta sg H _ e fun v H1 e1 => ho B F0 _ sg H1 _ e1 fun u H2 e2 => by
  have hu := e2.tm_adr List.mem_cons_self
  subst hu
  obtain ⟨F, g, e2⟩ := e2
  obtain ⟨_, _, dx, xs, hx, rx⟩ := e2.ce _ (List.mem_of_getElem? hj)
  have hv := e2.tm (v, .val d) (List.mem_cons_of_mem _ List.mem_cons_self)
  refine ⟨a, C, dx, xs, rfl, hx, c, nf, by rw [rpf_len rx]; omega, k _ _ ⟨F, g, ?_⟩⟩
  exact (e2.write (o := .ins C dx (putF f v xs)) (n' := .ins C (putD f d fs)) hj ⟨dx, _, upd_same, rpf_put hv rx⟩).held fun p hp => List.mem_cons_of_mem _ (List.mem_cons_of_mem _ hp)
theorem q_fld {f : Str} {d : D} {j : Nat} {De : Ends} {u : TS} (hv : EvD K tf ro ka (.val d) k1) (ho : EvD K te ro k1 (.val (.adr a)) k2) (hj : k2[j]? = some (a, .ins C fs)) (c : Cls K C) (nf : NoAttr K C f) (hz : fs.length < 900)
    (k : Gp K B F0 ta (u De) ro (k2.set j (a, .ins C (putD f d fs)))) : Gp K B F0 ta (tSeq (sFld K te tf f) u De) ro ka := g_fld (De := { De with nx := u De }) hv ho hj c nf hz k

/-! ### isinstance -/
/-- the type of what w stands for -/
inductive Tw (K : PySem.W.Frag) (ka : Cells) : W → Value → Prop where
  | non : Tw K ka (.val .non) (.type "NoneType")
  | bl {i : Bool} : Tw K ka (.val (.bl i)) (.type "bool")
  | int {i : Int} : Tw K ka (.val (.int i)) (.type "int")
  | str {i : Str} : Tw K ka (.val (.str i)) (.type "str")
  | lst {u : W} {ds : List D} {b1 : Bool} (l : Lk ka u false ds b1) : Tw K ka u (.type "list")
  | tup {u : W} {ds : List D} {b1 : Bool} (l : Lk ka u true ds b1) : Tw K ka u (.type "tuple")
  | io {u : W} {D1 : Addr} {gs : List (Str × D)} {b1 : Bool} (l : Io ka u D1 gs b1) (c : ClsI K D1) : Tw K ka u (.ref D1)
theorem Tw.at {t : Value} {v : V} (l : Tw K ka w t) (e : En K B F0 ro ka ta sg H) (h : (v, w) ∈ ta) : TyX K H v t := by
  cases l with
  | non => obtain rfl := e.tm_non h; exact .base .non
  | bl => obtain rfl := e.tm_bl h; exact .base (.bl _)
  | int => obtain rfl := e.tm_int h; exact .base (.int _)
  | str => obtain rfl := e.tm_str h; exact .base (.str _)
  | lst l =>
    obtain ⟨F, g, e⟩ := e
    obtain ⟨a, xs, rfl, h1, _⟩ := l.get e (e.tm _ h)
    rcases (show Rd H a (.lst xs) from h1) with h1 | ⟨o, h1⟩
    · exact .base (.lst h1)
    · exact .base (.frz h1)
  | tup l =>
    obtain ⟨F, g, e⟩ := e
    obtain ⟨a, xs, rfl, h1, _⟩ := l.get e (e.tm _ h)
    rcases (show SqT K H a xs from h1) with h1 | h1
    · rcases h1 with h1 | ⟨o, h1⟩
      · exact .base (.tup h1)
      · exact .fTuple h1
    · obtain ⟨o, its, n, q1, q2, _⟩ := h1
      exact .kTuple q1 q2
  | io l c =>
    obtain ⟨a, dx, xs, rfl, ha⟩ := l.en e h
    exact .base (.ins ha c.cl c.ha c.hn c.htk c.hm)
theorem rc_isi {T : String} {t : Value} {b : Bool} (l : Tw K ka w t) (h : kitOne K t (.type T) = some b) : RcD K (rIsi K) ka [w, .val (.ty T)] (.val (.bl b)) := fun B F0 ro ta sg H us Q e hl hm q => by
  obtain ⟨u, v, rfl, h1, h2⟩ := zip_two hl hm
  have hv : v = .ty T := e.tm_ty h2
  subst hv
  exact ⟨u, .ty T, t, .type T, b, rfl, .ty T, l.at e h1, h, q _ _ (e.push_imm fun _ => rfl)⟩
theorem rc_isiC {t : Value} {C1 : Addr} {b : Bool} (l : Tw K ka w t) (h : kitOne K t (.ref C1) = some b) : RcD K (rIsi K) ka [w, .val (.adr C1)] (.val (.bl b)) := fun B F0 ro ta sg H us Q e hl hm q => by
  obtain ⟨u, v, rfl, h1, h2⟩ := zip_two hl hm
  obtain rfl := e.tm_adr h2
  exact ⟨u, .ref C1, t, .ref C1, b, rfl, .own C1, l.at e h1, h, q _ _ (e.push_imm fun _ => rfl)⟩
end
end DL

/-! DJ: raise, try, by data; conversions (own work). -/
namespace DL
open PySem L2 PySem.W

/-! ### own exception classes -/
theorem slots_six {sl : Array (Option Value)} (h : slotsOk sl = true) : ∃ a b c d e, sl = #[a, b, c, d, some (.builtin "ValueError.__new__"), e] := by
  obtain ⟨h1, h2⟩ := Bool.and_eq_true_iff.mp h
  have h1 := beq_iff_eq.mp h1
  have h2 := beq_iff_eq.mp h2
  obtain ⟨l⟩ := sl
  match l, h1, h2 with
  | [a, b, c, d, x, e], _, h2 =>
    have : x = some (.builtin "ValueError.__new__") := by simpa using h2
    exact ⟨a, b, c, d, e, by rw [this]⟩
theorem oexB_ok {K : PySem.W.Frag} {C : Addr} (h : oexB K C = true) : OexC K C := by
  have h := Bool.and_eq_true_iff.mp h
  have r1 := Bool.and_eq_true_iff.mp h.2
  have r2 := Bool.and_eq_true_iff.mp r1.2
  have r3 := Bool.and_eq_true_iff.mp r2.2
  refine ⟨?_, of_decide_eq_true r1.1, of_decide_eq_true r2.1, of_decide_eq_true r3.1, r3.2⟩
  obtain ⟨o, ho, h1⟩ : ∃ o, K.lookup C = some o ∧ errObj C o = true := by
    cases q : K.lookup C with
    | none => have := h.1; rw [q] at this; cases this
    | some o => have := h.1; rw [q] at this; exact ⟨o, rfl, this⟩
  have k1 := Bool.and_eq_true_iff.mp h1
  have k2 := Bool.and_eq_true_iff.mp k1.2
  have hc := beq_iff_eq.mp k1.1
  obtain ⟨s0, s1, s2, s3, s5, hs⟩ := slots_six k2.1
  obtain ⟨oc, od, dt, sl⟩ := o
  cases dt with
  | cls cd =>
    have l1 := Bool.and_eq_true_iff.mp (show (!cd.hasDel && (cd.hasDict && _)) = true from k2.2)
    have l2 := Bool.and_eq_true_iff.mp l1.2
    have hdel : cd.hasDel = false := by simpa using l1.1
    have hdict : cd.hasDict = true := l2.1
    cases hm : cd.mro with
    | nil => have := l2.2; rw [hm] at this; cases this
    | cons x r =>
      have l3 : (x == .ref C && PySem.HandSPX.refsVE r) = true := by have := l2.2; rw [hm] at this; exact this
      have l4 := Bool.and_eq_true_iff.mp l3
      have hx := beq_iff_eq.mp l4.1
      refine ⟨cd.name, cd.qualname, cd.ns, cd.bases, r, cd.slotNames, cd.subclasses, cd.abstract, cd.collection, od, s0, s1, s2, s3, s5, ?_, l4.2⟩
      rw [ho]
      have hc : oc = .type "type" := hc
      have hs : sl = _ := hs
      subst hc hs hx
      cases cd
      cases hm
      cases hdel
      cases hdict
      rfl
  | _ => cases k2.2
/-- what a raised own error with fields asks of the text -/
structure Xc (K : PySem.W.Frag) (C : Addr) : Prop where
  oex : OexC K C
  xf : XfC K C
theorem xcB_ok {K : PySem.W.Frag} {C : Addr} (h : xcB K C = true) : Xc K C := let ⟨a, b⟩ := Bool.and_eq_true_iff.mp h; ⟨oexB_ok a, xfB_ok b⟩
/-- __init__(self, x): self.f = x -/
def spI1 (K : PySem.W.Frag) (C : Addr) (f : Str) : Sp := fun vs H Q _ => ∃ a y, vs = [.ref a, y] ∧ OexC K C ∧ findIn K (.ref C) f = some none ∧ H a = some (exo a C none) ∧
  ∀ d, H d = none → d ≠ a → Q .non (upd (upd H d (exd d [(f, y)])) a (exo a C (some d)))
theorem init1_ok {P : Program} {w : World} {K : PySem.W.Frag} {mg : Str → Option Value} {base : Heap} {f C : Addr} {fd : FuncData} {nm qual x fld : Str} {params : Arguments} {body : List Stmt} {scope : Scope} {k : Nat} {CX : CXT}
    (F : FunD K nm qual params body scope [] [] f fd) (S : FnScope ["self", x] ["self", x] scope)
    (h : ∀ (cdv : Value) (A : Around) (outer : List Env) (s : Shared) (H : Hp) (E : XK), PSs (cxOf CX P w K mg base ["self", x] qual scope f cdv A outer s H E) body (tOst K fld (tVar 0) (tVar 1))) : FnOk P w K mg base CX (k + 1) f fd ["self", x] (spI1 K C fld) :=
  F.ok S (fun vs H Q E ⟨a, y, e, _⟩ => by rw [e]; rfl) fun cdv A outer s H vs Q E hr ⟨a, y, e, T, hno, ha, q⟩ => ⟨_, h cdv A outer s H E, by
    subst e
    exact ⟨y, rfl, .ref a, rfl, a, C, rfl, T, hno, .inl ⟨ha, q⟩⟩⟩
/-- an own error class made without arguments: a new object, no fields -/
theorem pmk_zero {X : Cx} {C : Addr} {mros : List Value} {base new ini : String} {x : Str} {p pos : Pos} (facts : PySem.ExcBaseFacts base new ini mros) (known : excIn X.K C mros new = true) (here : X.mg x = some (.ref C)) (kept : keepIn X.K (.ref C) = true) (up : Raises X (.ref C)) (glob : Gl X x)
    (plain : (x == ("__debug__" : Str)) = false := by decide) : PMk X (.Call (.Name x p) [] [] pos) (fun _ H Q => Q (.ref C) none H) := fun pins s sg H Q I want => by
  obtain ⟨mro, ns, cn, qn, bases, dct, slots, subs, abst, coll, dd, a0, a1, a2, a3, a5, mN, look, space, noInit, tail⟩ := exc_obj I.kIn known
  have made := PySem.wpAny_call_exc_subT (prog := X.prog) (w := X.w) (A := X.A) (Q := MkP X pins sg Q) (E := X.xe) (rest := []) facts tail look space noInit (fun h' e new => mk_of (I.tok _) new up want (I.hok.gone new.new)) (Nat.zero_le _)
  exact wpAny_Call_Name_kw (ld_glob (pos := p) (E := X.xe) I glob here (callWith_K0 (first := []) I.kIn kept made) plain)

section
variable {K : PySem.W.Frag} {B F F0 : Hp} {ro : Ro} {ka k1 k2 k3 kr : Cells} {ta : List (V × W)} {sg : L2.St} {H H' : Hp} {te tf tg : TE} {tr : TA} {tt : TT} {w x y z : W} {n : Nd} {C dx a : Addr} {fs : List (Str × D)} {b : Bool} {P : L2.St → Hp → Prop}
theorem mk1_of {fld : Str} {d : D} {Q : XK} (ha : EvA K tr ro ka [.val d] k1) (T : OexC K C) (hno : findIn K (.ref C) fld = some none) (e : En K B F0 ro ka ta sg H)
    (q : ∀ dx H', En K B F0 ro (k1 ++ [(dx, .xd [(fld, d)])]) ta sg H' → Q (.ref C) (some dx) H') : tMkO C (spI1 K C fld) [] tr sg H Q := ha B F0 ta sg H _ e fun vs H1 hl e1 => by
  match vs, hl with
  | [v], _ =>
    refine ⟨by show 1 ≤ 1000; omega, fun a hna => ⟨a, v, rfl, T, hno, upd_same, fun dd hd hne => ⟨rfl, dd, [(fld, v)], upd_same, ?_, ?_, ?_⟩⟩⟩
    · rw [upd_ne hne, upd_same]
    · rwa [upd_ne hne] at hd
    · have hd1 : H1 dd = none := by rwa [upd_ne hne] at hd
      have eH : upd (del (upd (upd (upd H1 a (exo a C none)) dd (exd dd [(fld, v)])) a (exo a C (some dd))) a) dd (.xd [(fld, v)]) = upd H1 dd (.xd [(fld, v)]) := by
        funext b
        by_cases h1 : b = dd
        · subst h1
          rw [upd_same, upd_same]
        · rw [upd_ne h1, upd_ne h1]
          by_cases h2 : b = a
          · subst h2
            rw [del_same, hna]
          · rw [del_ne h2, upd_ne h2, upd_ne h1, upd_ne h2]
      rw [eH]
      obtain ⟨F, g, e1⟩ := e1
      have hv : WOk K B F v (.val d) := e1.tm _ (List.mem_append_left _ List.mem_cons_self)
      exact q dd _ ⟨F, g, (e1.cell (o := .xd [(fld, v)]) hd1 (n := .xd [(fld, d)]) ⟨_, upd_same, v, [], rfl, hv, rfl⟩).held fun p hp => List.mem_append_right _ hp⟩
theorem En.leaveX (e : En K B F0 ro ka ta sg H) : En K B F0 [] ka [] [] H :=
  let ⟨F, g, q⟩ := e
  ⟨F, g, (q.frame (ro' := []) (sg' := []) rfl fun i w h => by simp at h).held fun p hp => by cases hp⟩
theorem g_raise1 {fld : Str} {d : D} {out : Out → Cells → Prop} {E : XK} (hX : RxOk K B F0 out E) (ha : EvA K tr ro ka [.val d] k1) (T : OexC K C) (hno : findIn K (.ref C) fld = some none) (o : out (.exc C [(fld, d)]) k1) :
    Gp K B F0 ta (fun σ H => tMkO C (spI1 K C fld) [] tr σ H fun cls dd H' => E cls dd H') ro ka := fun sg H e => mk1_of ha T hno e fun dx H' e' => hX.1 C _ k1 dx H' o e'.leaveX
theorem g_raise0 {out : Out → Cells → Prop} {E : XK} (hX : RxOk K B F0 out E) (o : out (.exc0 C) ka) : Gp K B F0 ta (fun σ H => E (.ref C) none H) ro ka := fun sg H e => hX.2 C ka H o e.leaveX

/-! ### try -/
/-- what is wished of an exception, whatever the slots hold -/
def XW (n : Nat) (Wx : WX) : XK := fun cls d H => ∀ σ : L2.St, σ.length = n → Wx cls d σ H
theorem pass_xw {X : Cx} {Wx : WX} (tk : Takes X Wx) : Passes (L2.CX X.prog X.w) X (XW X.N.length Wx) := fun _ σ _ _ e s' I c => tk e s' (XE.of_call I (fun _ _ _ h => h σ I.len) c)
/-- e.f of the exception -/
theorem ev_xf {f : Str} {d : D} {j : Nat} (he : EvD K te ro ka (.val (.adr a)) k1) (hj : k1[j]? = some (dx, .xd fs)) (hd : fs.lookup f = some d) : EvD K (tXf a (.ref C) (some dx) C f te) ro ka (.val d) k1 := fun B F0 ta sg H Q e q => he B F0 ta sg H _ e fun v H1 e1 => by
  have hv := e1.tm_adr List.mem_cons_self
  subst hv
  obtain ⟨F, g, e1⟩ := e1
  obtain ⟨_, _, xs, hx, rx⟩ := e1.ce _ (List.mem_of_getElem? hj)
  obtain ⟨v, l, rv⟩ := rpf_lookup rx hd
  exact ⟨rfl, rfl, dx, xs, v, rfl, hx, l, q v H1 ⟨F, g, (e1.held (ta' := ta) fun p hp => List.mem_cons_of_mem _ hp).push rv⟩⟩

/-! ### conversions -/
def rTupU (K : PySem.W.Frag) : List V → Hp → VK → Prop := fun xs H Q => ∃ p ys, xs = [.ref p] ∧ ((SqL K H p ys ∧ ∀ l, H l = none → Q (.ref l) (upd H l (.tup ys))) ∨ (SqT K H p ys ∧ Q (.ref p) H))
def rLstU (K : PySem.W.Frag) : List V → Hp → VK → Prop := fun xs H Q => ∃ p ys, xs = [.ref p] ∧ (SqL K H p ys ∨ SqT K H p ys) ∧ ∀ l, H l = none → Q (.ref l) (upd H l (.lst ys))
def rIntU : List V → Hp → VK → Prop := fun xs H Q => (∃ i, xs = [.int i] ∧ Q (.int i) H) ∨ ∃ k, xs = [.bl k] ∧ Q (.int (if k then 1 else 0)) H
theorem call_tupU {X : Cx} : CallR X (.type "tuple") (rTupU X.K) := call_tuple_of
theorem call_lstU {X : Cx} : CallR X (.type "list") (rLstU X.K) := call_list_of
theorem call_intU {X : Cx} : CallR X (.type "int") rIntU := call_int1
theorem rpl_imm {F G : Hp} : ∀ {ds : List D} {xs : List V}, ds.all imm = true → RpL K F ds xs → RpL K G ds xs
  | [], _, _, h => h
  | d :: ds, xs, hi, h => by
    obtain ⟨x, ys, rfl, h1, h2⟩ := h
    rw [List.all_cons, Bool.and_eq_true] at hi
    exact ⟨x, ys, rfl, imm_any hi.1 h1, rpl_imm hi.2 h2⟩
/-- a sequence's items may be told as frozen -/
def SqF (b : Bool) (ds : List D) : Prop := b = false ∨ ds.all imm = true
theorem SqF.to {ds : List D} {xs : List V} (h : SqF b ds) (r : RpL K (if b then uni B F else F) ds xs) : RpL K F ds xs := by
  rcases h with h | h
  · subst h; exact r
  · exact rpl_imm h r
theorem rc_tupL {ds : List D} (l : Lk ka w false ds b) (hf : SqF b ds) : RcD K (rTupU K) ka [w] (.val (.tup ds)) := fun B F0 ro ta sg H us Q e hl hm q => by
  obtain ⟨u, rfl, hu⟩ := zip_one hl hm
  obtain ⟨F, g, e⟩ := e
  obtain ⟨a, xs, rfl, h1, h2⟩ := l.get e (e.tm _ hu)
  have r2 := hf.to h2
  refine ⟨a, xs, rfl, .inl ⟨.inl h1, fun p hp => q _ _ ?_⟩⟩
  obtain ⟨e4, g4⟩ := e.lay (o := .tup xs) hp rfl
  exact ⟨_, g.trans g4, e4.push ⟨p, _, rfl, .inl (.inl upd_same), RpL.mono g4.sub.exz e.nz _ _ r2⟩⟩
theorem rcn_lst {t : Bool} {ds : List D} (l : Lk ka w t ds b) (hf : SqF b ds) : RcN K (rLstU K) ka [w] (.lst ds) := fun B F0 ro ta sg H us Q e hl hm q => by
  obtain ⟨u, rfl, hu⟩ := zip_one hl hm
  obtain ⟨F, g, e⟩ := e
  obtain ⟨a, xs, rfl, h1, h2⟩ := l.at e (e.tm _ hu)
  have r2 := hf.to h2
  exact ⟨a, xs, rfl, h1, fun p hp => q p _ ⟨F, g, e.cell (o := .lst xs) hp (n := .lst ds) ⟨_, upd_same, r2⟩⟩⟩
theorem rc_int {i : Int} : RcD K rIntU ka [.val (.int i)] (.val (.int i)) := fun B F0 ro ta sg H us Q e hl hm q => by
  obtain ⟨u, rfl, hu⟩ := zip_one hl hm
  obtain rfl := e.tm_int hu
  exact .inl ⟨i, rfl, q _ _ (e.push_imm fun _ => rfl)⟩
theorem rpl_bls {F : Hp} : ∀ {bs : List Bool} {xs : List V}, RpL K F (bs.map D.bl) xs → xs = bs.map V.bl
  | [], _, h => h
  | b :: bs, xs, h => by
    obtain ⟨x, ys, rfl, h1, h2⟩ := h
    rw [show x = V.bl b from h1, rpl_bls h2]
    rfl
theorem rc_all {bs : List Bool} (l : Lk ka w false (bs.map D.bl) b) : RcD K (rAll K) ka [w] (.val (.bl (bs.all id))) := fun B F0 ro ta sg H us Q e hl hm q => by
  obtain ⟨u, rfl, hu⟩ := zip_one hl hm
  obtain ⟨F, g, e⟩ := e
  obtain ⟨a, xs, rfl, h1, h2⟩ := l.get e (e.tm _ hu)
  have := rpl_bls h2
  subst this
  exact ⟨a, bs, rfl, .inl h1, q _ _ ⟨F, g, e.push rfl⟩⟩
theorem rc_any {bs : List Bool} (l : Lk ka w false (bs.map D.bl) b) : RcD K (rAny K) ka [w] (.val (.bl (bs.any id))) := fun B F0 ro ta sg H us Q e hl hm q => by
  obtain ⟨u, rfl, hu⟩ := zip_one hl hm
  obtain ⟨F, g, e⟩ := e
  obtain ⟨a, xs, rfl, h1, h2⟩ := l.get e (e.tm _ hu)
  have := rpl_bls h2
  subst this
  exact ⟨a, bs, rfl, .inl h1, q _ _ ⟨F, g, e.push rfl⟩⟩
/-- a sign in a text -/
theorem rv_inS {c : Nat} {s : Str} : RvD K rInS ka (.val (.str ⟨#[c]⟩)) (.val (.str s)) (.val (.bl (decide (c ∈ s.cps.toList)))) := fun B F0 ro ta sg H u v Q e h1 h2 q =>
  ⟨c, s, e.tm_str h1, e.tm_str h2, q _ _ (e.push_imm fun _ => rfl)⟩
theorem rpl_ints {F : Hp} : ∀ (zs : List Int), RpL K F (zs.map D.int) (zs.map V.int)
  | [] => rfl
  | z :: zs => ⟨.int z, _, rfl, rfl, rpl_ints zs⟩
/-- a slot's cell is frozen -/
theorem Gp.frz {i j : Nat} {ds : List D} (hi : ro[i]? = some (some (.val (.adr a)))) (hj : ka[j]? = some (a, .lst ds)) (h : Gp K B F0 ta P (ro.set i (some (.val (.lst ds)))) (ka.eraseIdx j)) : Gp K B F0 ta P ro ka := fun sg H e => by
  have hp : (ka.eraseIdx j ++ [(a, Nd.lst ds)]).Perm ka := by
    have hlt := (List.getElem?_eq_some_iff.mp hj).1
    have h2 : ka[j] = (a, Nd.lst ds) := (List.getElem?_eq_some_iff.mp hj).2
    have e3 : ka = ka.take j ++ (a, Nd.lst ds) :: ka.drop (j + 1) := by
      rw [← h2, List.getElem_cons_drop, List.take_append_drop]
    rw [List.eraseIdx_eq_take_drop_succ]
    refine List.Perm.trans List.perm_append_comm ?_
    show (((a, Nd.lst ds)) :: (ka.take j ++ ka.drop (j + 1))).Perm ka
    refine List.Perm.trans List.perm_middle.symm ?_
    rw [← e3]
  obtain ⟨F, g, e2⟩ := (e.perm hp).freeze_l
  refine h sg H ⟨F, g, (e2.frame (ro' := ro.set i (some (.val (.lst ds)))) (sg' := sg) (by rw [List.length_set]; exact e2.ln) fun k w q => ?_).held fun p hp => List.mem_cons_of_mem _ hp⟩
  by_cases hik : i = k
  · subst hik
    have hl := (List.getElem?_eq_some_iff.mp hi).1
    rw [List.getElem?_set_self hl] at q
    cases q
    obtain ⟨v, h1, h2⟩ := e2.sl i _ hi
    obtain rfl : v = .ref a := h2
    exact ⟨.ref a, h1, e2.tm _ List.mem_cons_self⟩
  · rw [List.getElem?_set_ne hik] at q
    exact e2.sl k w q
end
end DL

/-! DL1: contracts by number of arguments, bundles for the printed derivations (own work). -/
namespace DL
open PySem L2 PySem.W
abbrev Oc := Out → Cells → Prop
def Ct1 (R : W → Cells → Oc → Prop) : Ct := fun ws ka out => ∃ a, ws = [a] ∧ R a ka out
def Ct2 (R : W → W → Cells → Oc → Prop) : Ct := fun ws ka out => ∃ a b, ws = [a, b] ∧ R a b ka out
def Ct3 (R : W → W → W → Cells → Oc → Prop) : Ct := fun ws ka out => ∃ a b c, ws = [a, b, c] ∧ R a b c ka out
def Ct4 (R : W → W → W → W → Cells → Oc → Prop) : Ct := fun ws ka out => ∃ a b c d, ws = [a, b, c, d] ∧ R a b c d ka out
theorem ct1_len {R} : ∀ ws ka out, Ct1 R ws ka out → ws.length = 1 := fun _ _ _ ⟨_, h, _⟩ => by rw [h]; rfl
theorem ct2_len {R} : ∀ ws ka out, Ct2 R ws ka out → ws.length = 2 := fun _ _ _ ⟨_, _, h, _⟩ => by rw [h]; rfl
theorem ct3_len {R} : ∀ ws ka out, Ct3 R ws ka out → ws.length = 3 := fun _ _ _ ⟨_, _, _, h, _⟩ => by rw [h]; rfl
theorem ct4_len {R} : ∀ ws ka out, Ct4 R ws ka out → ws.length = 4 := fun _ _ _ ⟨_, _, _, _, h, _⟩ => by rw [h]; rfl
/-- how a call ends: it comes back with d, the cells k; it raises -/
def Rt (d : D) (k : Cells) : Oc := fun o k' => o = .ret d ∧ k' = k
def Xt (C : Addr) (fs : List (Str × D)) (k : Cells) : Oc := fun o k' => o = .exc C fs ∧ k' = k
def X0 (C : Addr) (k : Cells) : Oc := fun o k' => o = .exc0 C ∧ k' = k
def Nt (n : Nd) (k : Cells) : Oc := fun o k' => ∃ a, o = .ret (.adr a) ∧ k' = k ++ [(a, n)]
section
variable {X : Cx} {k : Nat} {f C : Addr} {ps : List Str} {E : XK} {Ct' : Ct} {x m : Str} {p pos apos : Pos} {e o : Expr} {es : List Expr} {ta te to ti : TE} {t : TA}
/-- an own error with one field -/
structure Xn (P : Program) (w : World) (K : PySem.W.Frag) (mg : Str → Option Value) (base : Heap) (C : Addr) (fld : Str) : Prop where
  xc : Xc K C
  no : findIn K (.ref C) fld = some none
  ex : ∃ fI fd x, findIn K (.ref C) "__init__" = some (some (.ref fI)) ∧ typeIn K (.ref fI) = some (.type "function") ∧ FnOk P w K mg base (L2.CX P w) 1 fI fd ["self", x] (spI1 K C fld) ∧ Binds K fd ["self", x] []
namespace Xn
variable {P : Program} {w : World} {K : PySem.W.Frag} {mg : Str → Option Value} {base : Heap} {C : Addr} {fld : Str}
noncomputable def fI (Z : Xn P w K mg base C fld) : Addr := Classical.choose Z.ex
noncomputable def fd (Z : Xn P w K mg base C fld) : FuncData := Classical.choose (Classical.choose_spec Z.ex)
noncomputable def px (Z : Xn P w K mg base C fld) : Str := Classical.choose (Classical.choose_spec (Classical.choose_spec Z.ex))
theorem all (Z : Xn P w K mg base C fld) : findIn K (.ref C) "__init__" = some (some (.ref Z.fI)) ∧ typeIn K (.ref Z.fI) = some (.type "function") ∧ FnOk P w K mg base (L2.CX P w) 1 Z.fI Z.fd ["self", Z.px] (spI1 K C fld) ∧ Binds K Z.fd ["self", Z.px] [] :=
  Classical.choose_spec (Classical.choose_spec (Classical.choose_spec Z.ex))
end Xn
end
end DL
namespace DL
open PySem L2 PySem.W
/-- a constant of the module -/
theorem pe_gv {X : Cx} {x : Str} {pos : Pos} {v : V} (hg : Gl X x) (h : ∃ u, X.mg x = some u ∧ RelV v u) (hd : (x == ("__debug__" : Str)) = false := by decide) : PE X (.Name x pos) (tC v) := let ⟨_, hm, r⟩ := h; pe_glob hg hm r hd
/-- what BlkOk asks, as one thing to be decided -/
def blkB (N : List Str) (sc scope : Scope) (own : List (Str × Nat)) : Bool :=
  decide (scope.kind = .function ∧ (∀ p ∈ own, N[p.2]? = some p.1) ∧ ∀ y ∈ scope.names, scope.names.lookup y.1 = some y.2 ∧ (y.2 = .free → sc.names.lookup y.1 = some .cell ∨ sc.names.lookup y.1 = some .free) ∧ (y.2 = .local ∨ y.2 = .cell → y.1 ∈ own.map (·.1) ∨ y.1 ∉ N))
theorem blk_ok {N : List Str} {sc scope : Scope} {own : List (Str × Nat)} (N' : List Str) (sc' : Scope) (eN : N = N') (eS : sc = sc') (h : blkB N' sc' scope own = true) : BlkOk N sc scope own :=
  let ⟨fn, at_, each⟩ := of_decide_eq_true h
  eN ▸ eS ▸ { kind := fn, uniq := fun y m => (each y m).1, ix := at_, free := fun y m => (each y m).2.1, own := fun y m => (each y m).2.2 }
end DL

/-! DM: shorter words (own work). -/
namespace DL
open PySem L2 PySem.W
section
variable {K : PySem.W.Frag} {B F F0 : Hp} {ro : Ro} {ka k1 k2 k3 kr : Cells} {ta : List (V × W)} {sg : L2.St} {H H' : Hp} {te tf tg : TE} {tr : TA} {tt tu : TT} {w x y z : W} {n m : Nd} {C dx a : Addr} {fs : List (Str × D)} {b : Bool} {P : L2.St → Hp → Prop} {De : Ends} {t u : TS} {E : XK}
theorem ea1 (h : EvD K te ro ka x k1) : EvA K (tCons te tNil) ro ka [x] k1 := ea_cons h ea_nil
theorem ea2 (h : EvD K te ro ka x k1) (h2 : EvD K tf ro k1 y k2) : EvA K (tCons te (tCons tf tNil)) ro ka [x, y] k2 := ea_cons h (ea1 h2)
theorem ea3 (h : EvD K te ro ka x k1) (h2 : EvD K tf ro k1 y k2) (h3 : EvD K tg ro k2 z k3) : EvA K (tCons te (tCons tf (tCons tg tNil))) ro ka [x, y, z] k3 := ea_cons h (ea2 h2 h3)
theorem EvA.to {ws ws' : List W} (h : EvA K tr ro ka ws k1) (e : ws = ws') : EvA K tr ro ka ws' k1 := e ▸ h
/-- the built-in type of data -/
def tyD : D → Option String
  | .non => some "NoneType" | .bl _ => some "bool" | .int _ => some "int" | .str _ => some "str" | .lst _ => some "list" | .tup _ => some "tuple"
  | _ => none
theorem tw_of {d : D} {T : String} (h : tyD d = some T) : Tw K ka (.val d) (.type T) := by
  cases d <;> cases h
  · exact .non
  · exact .bl
  · exact .int
  · exact .str
  · exact .tup .vt
  · exact .lst .vl
theorem ev_isi {T : String} {t : Value} (h : EvD K te ro ka w k1) (l : Tw K k1 w t) (e : kitOne K t (.type T) = some b) : EvD K (tCB (rIsi K) (tCons te (tCons (tC (.ty T)) tNil))) ro ka (.val (.bl b)) k1 := ev_cb (ea2 h ev_ty) (rc_isi l e)
theorem ev_isiC {C1 : Addr} {t : Value} (h : EvD K te ro ka w k1) (l : Tw K k1 w t) (e : kitOne K t (.ref C1) = some b) : EvD K (tCB (rIsi K) (tCons te (tCons (tC (.ref C1)) tNil))) ro ka (.val (.bl b)) k1 := ev_cb (ea2 h ev_ref) (rc_isiC l e)
theorem ev_len {t b : Bool} {ds : List D} (h : EvD K te ro ka w k1) (l : Lk k1 w t ds b) : EvD K (tCB (rLenU K) (tCons te tNil)) ro ka (.val (.int ds.length)) k1 := ev_cb (ea1 h) (rc_len l)
theorem ev_lenS {s : Str} (h : EvD K te ro ka (.val (.str s)) k1) (hs : s.length ≤ 100000) : EvD K (tCB (rLenU K) (tCons te tNil)) ro ka (.val (.int s.length)) k1 := ev_cb (ea1 h) (rc_lenS hs)
theorem ev_eq {d e : D} (h : EvD K te ro ka x k1) (h2 : EvD K tf ro k1 y k2) (l1 : Pk k2 x d) (l2 : Pk k2 y e) (p1 : pl 61 d = true) (p2 : pl 61 e = true) : EvD K (tOp (rEqP K false) te tf) ro ka (.val (.bl (eqD d e))) k2 := ev_op h h2 (rv_eqP l1 l2 p1 p2)
theorem ev_ne {d e : D} (h : EvD K te ro ka x k1) (h2 : EvD K tf ro k1 y k2) (l1 : Pk k2 x d) (l2 : Pk k2 y e) (p1 : pl 61 d = true) (p2 : pl 61 e = true) : EvD K (tOp (rEqP K true) te tf) ro ka (.val (.bl (!eqD d e))) k2 := ev_op h h2 (rv_neP l1 l2 p1 p2)
theorem ev_eqI {i j : Int} (h : EvD K te ro ka (.val (.int i)) k1) (h2 : EvD K tf ro k1 (.val (.int j)) k2) : EvD K (tOp (rEqP K false) te tf) ro ka (.val (.bl (i == j))) k2 := ev_eq h h2 .v .v rfl rfl
theorem ev_eqS {i j : Str} (h : EvD K te ro ka (.val (.str i)) k1) (h2 : EvD K tf ro k1 (.val (.str j)) k2) : EvD K (tOp (rEqP K false) te tf) ro ka (.val (.bl (i == j))) k2 := ev_eq h h2 .v .v rfl rfl
theorem ev_addI {i j : Int} (h : EvD K te ro ka (.val (.int i)) k1) (h2 : EvD K tf ro k1 (.val (.int j)) k2) : EvD K (tOp (rAddU K) te tf) ro ka (.val (.int (i + j))) k2 := ev_op h h2 rv_addI
theorem ev_subI {i j : Int} (h : EvD K te ro ka (.val (.int i)) k1) (h2 : EvD K tf ro k1 (.val (.int j)) k2) : EvD K (tOp rSubI te tf) ro ka (.val (.int (i - j))) k2 := ev_op h h2 rv_sub
theorem ev_mulI {i j : Int} (h : EvD K te ro ka (.val (.int i)) k1) (h2 : EvD K tf ro k1 (.val (.int j)) k2) (c : IntMulOk i j) : EvD K (tOp rMulU te tf) ro ka (.val (.int (i * j))) k2 := ev_op h h2 (rvd_l (rv_I c fun _ => rfl))
theorem ev_mulL {i j : Int} (h : EvD K te ro ka (.val (.int i)) k1) (h2 : EvD K tf ro k1 (.val (.int j)) k2) (c : Builtin.Int.intBits i ≤ 64 := by decide) : EvD K (tOp rMulU te tf) ro ka (.val (.int (i * j))) k2 := ev_mulI h h2 (.of_left c)
theorem ev_mulR {i j : Int} (h : EvD K te ro ka (.val (.int i)) k1) (h2 : EvD K tf ro k1 (.val (.int j)) k2) (c : Builtin.Int.intBits j ≤ 64 := by decide) : EvD K (tOp rMulU te tf) ro ka (.val (.int (i * j))) k2 := ev_mulI h h2 (.of_right c)
theorem ev_modI {i j : Int} (h : EvD K te ro ka (.val (.int i)) k1) (h2 : EvD K tf ro k1 (.val (.int j)) k2) (c : 0 < j) : EvD K (tOp rModI te tf) ro ka (.val (.int (i % j))) k2 := ev_op h h2 (rv_mod c)
theorem ev_divI {i j : Int} (h : EvD K te ro ka (.val (.int i)) k1) (h2 : EvD K tf ro k1 (.val (.int j)) k2) (c : CDiv i j) : EvD K (tOp rDivI te tf) ro ka (.val (.int (i / j))) k2 := ev_op h h2 (rv_div c)
theorem ev_powI {i j : Int} (h : EvD K te ro ka (.val (.int i)) k1) (h2 : EvD K tf ro k1 (.val (.int j)) k2) (c : CPow i j) : EvD K (tOp rPowI te tf) ro ka (.val (.int (i ^ j.toNat))) k2 := ev_op h h2 (rv_pow c)
theorem ev_lt {i j : Int} (h : EvD K te ro ka (.val (.int i)) k1) (h2 : EvD K tf ro k1 (.val (.int j)) k2) : EvD K (tOp rLtI te tf) ro ka (.val (.bl (decide (i < j)))) k2 := ev_op h h2 rv_lt
theorem ev_gt {i j : Int} (h : EvD K te ro ka (.val (.int i)) k1) (h2 : EvD K tf ro k1 (.val (.int j)) k2) : EvD K (tOp rGtI te tf) ro ka (.val (.bl (decide (j < i)))) k2 := ev_op h h2 rv_gt
theorem ev_ge {i j : Int} (h : EvD K te ro ka (.val (.int i)) k1) (h2 : EvD K tf ro k1 (.val (.int j)) k2) : EvD K (tOp rGeI te tf) ro ka (.val (.bl (decide (j ≤ i)))) k2 := ev_op h h2 rv_ge
theorem ev_int1 {i : Int} (h : EvD K te ro ka (.val (.int i)) k1) : EvD K (tCB rIntU (tCons te tNil)) ro ka (.val (.int i)) k1 := ev_cb (ea1 h) rc_int
theorem ev_addS {i j : Str} (h : EvD K te ro ka (.val (.str i)) k1) (h2 : EvD K tf ro k1 (.val (.str j)) k2) (hz : i.length + j.length ≤ 100000) : EvD K (tOp (rAddU K) te tf) ro ka (.val (.str (i ++ j))) k2 := ev_op h h2 (rv_addS hz)
theorem ev_ix {t b : Bool} {ds : List D} {i : Int} {d : D} (h : EvD K te ro ka w k1) (h2 : EvD K tf ro k1 (.val (.int i)) k2) (l : Lk k2 w t ds b) (hd : atI ds i = some d) : EvD K (tOp (rIx K) te tf) ro ka (part b d) k2 := ev_op h h2 (rv_ix l hd)
theorem ev_ixV {t : Bool} {ds : List D} {i : Int} {d : D} (h : EvD K te ro ka w k1) (h2 : EvD K tf ro k1 (.val (.int i)) k2) (l : Lk k2 w t ds false) (hd : atI ds i = some d) : EvD K (tOp (rIx K) te tf) ro ka (.val d) k2 := ev_ix h h2 l hd
theorem ev_ixS {s : Str} {i : Int} {c : Nat} (h : EvD K te ro ka (.val (.str s)) k1) (h2 : EvD K tf ro k1 (.val (.int i)) k2) (hs : s.length ≤ 100000) (hc : atI s.cps.toList i = some c) : EvD K (tOp (rIx K) te tf) ro ka (.val (.str ⟨#[c]⟩)) k2 := ev_op h h2 (rv_ixS hs hc)
theorem ev_inS {c : Nat} {s : Str} (h : EvD K te ro ka (.val (.str ⟨#[c]⟩)) k1) (h2 : EvD K tf ro k1 (.val (.str s)) k2) : EvD K (tOp (rInU K) te tf) ro ka (.val (.bl (decide (c ∈ s.cps.toList)))) k2 := ev_op h h2 (rvd_l rv_inS)
theorem rv_niS {c : Nat} {s : Str} : RvD K rNotInS ka (.val (.str ⟨#[c]⟩)) (.val (.str s)) (.val (.bl (!decide (c ∈ s.cps.toList)))) := fun B F0 ro ta sg H u v Q e h1 h2 q =>
  ⟨c, s, e.tm_str h1, e.tm_str h2, q _ _ (e.push_imm fun _ => rfl)⟩
theorem ev_niS {c : Nat} {s : Str} (h : EvD K te ro ka (.val (.str ⟨#[c]⟩)) k1) (h2 : EvD K tf ro k1 (.val (.str s)) k2) : EvD K (tOp (rNiU K) te tf) ro ka (.val (.bl (!decide (c ∈ s.cps.toList)))) k2 := ev_op h h2 (rvd_l rv_niS)
theorem rv_catT {ds es : List D} (hz : ds.length + es.length ≤ 100000) : RvD K (rAddU K) ka (.val (.tup ds)) (.val (.tup es)) (.val (.tup (ds ++ es))) := rvd_r (rvd_r (rvd_r fun B F0 ro ta sg H u v Q e h1 h2 q => by
  obtain ⟨F, g, e⟩ := e
  obtain ⟨a, xs, rfl, s1, r1⟩ := Lk.vt.get e (e.tm _ h1)
  obtain ⟨b, ys, rfl, s2, r2⟩ := Lk.vt.get e (e.tm _ h2)
  refine ⟨a, b, xs, ys, rfl, rfl, s1, s2, by rw [rpl_len r1, rpl_len r2]; exact Nat.le_trans hz (by decide), fun h0 => ?_, fun _ h0 => ?_, fun _ _ p hp => ?_⟩
  · have hd : ds = [] := List.eq_nil_of_length_eq_zero (by rw [← rpl_len r1, h0]; rfl)
    subst hd
    exact q _ _ ⟨F, g, e.push (e.tm _ h2)⟩
  · have hd : es = [] := List.eq_nil_of_length_eq_zero (by rw [← rpl_len r2, h0]; rfl)
    subst hd
    rw [List.append_nil] at q
    exact q _ _ ⟨F, g, e.push (e.tm _ h1)⟩
  · obtain ⟨e4, g4⟩ := e.lay (o := .tup (xs ++ ys)) hp rfl
    exact q _ _ ⟨_, g.trans g4, e4.push ⟨p, _, rfl, .inl (.inl upd_same), RpL.mono g4.sub.exz e.nz _ _ (rpl_app r1 r2)⟩⟩))
theorem ev_catT {ds es : List D} (h : EvD K te ro ka (.val (.tup ds)) k1) (h2 : EvD K tf ro k1 (.val (.tup es)) k2) (hz : ds.length + es.length ≤ 100000) : EvD K (tOp (rAddU K) te tf) ro ka (.val (.tup (ds ++ es))) k2 := ev_op h h2 (rv_catT hz)

/-! ### calls -/
/-- a contract that works on no cells -/
theorem ev_callP {Cc : Ct} {ws : List W} {d : D} (ha : EvA K tr ro ka ws k1) (hC : Cc ws [] (Rt d [])) : EvD K (tCall (spC K Cc) [] E tr) ro ka (.val d) k1 := ev_callF (k1 := []) (k2 := []) k1 ha hC fun _ _ h => h
/-- .. on all -/
theorem ev_callA {Cc : Ct} {ws : List W} {d : D} (ha : EvA K tr ro ka ws k1) (hC : Cc ws k1 (Rt d k2)) : EvD K (tCall (spC K Cc) [] E tr) ro ka (.val d) k2 := ev_call ha hC fun _ _ h => h
/-- .. on the first cell -/
theorem ev_call1 {Cc : Ct} {ws : List W} {d : D} (ha : EvA K tr ro ka ws ((a, n) :: kr)) (hC : Cc ws [(a, n)] (Rt d [(a, m)])) : EvD K (tCall (spC K Cc) [] E tr) ro ka (.val d) ((a, m) :: kr) := ev_callF (k1 := [(a, n)]) (k2 := [(a, m)]) kr ha hC fun _ _ h => h
theorem evn_callP {Cc : Ct} {ws : List W} (ha : EvA K tr ro ka ws k1) (hC : Cc ws [] (Nt m [])) : EvN K (tCall (spC K Cc) [] E tr) ro ka m k1 := evn_call (k1 := []) (k2 := []) k1 ha hC fun _ _ h => h
/-- the call's end is told by a word: any data, any cells -/
theorem sp_rel {Cc : Ct} {ws : List W} {out : Oc} {vs : List V} {Q : VK} (e : En K B F0 ro (ka ++ kr) (vs.zip ws ++ ta) sg H) (hl : vs.length = ws.length) (hC : Cc ws ka out) (ho : ∀ o k, out o k → ∃ d, o = .ret d)
    (q : ∀ d k2 v H', out (.ret d) k2 → En K B F0 ro (k2 ++ kr) ((v, .val d) :: ta) sg H' → Q v H') : spC K Cc vs H Q E := by
  obtain ⟨F, g, e⟩ := e
  refine ⟨off H ka, F, ws, ka, out, hC, hl, ⟨F, Gr.refl _ _, e.into (ro' := []) (sg' := []) (ta' := vs.zip ws) rfl (fun i w h => by simp at h) fun p hp => List.mem_append_left _ hp⟩, fun d' k v H' o ⟨F', g', e'⟩ => ?_, fun C fs k dx H' o _ => ?_, fun C k H' o _ => ?_⟩
  · obtain ⟨g2, e2⟩ := e.back g' e' (tb := (v, .val d') :: ta) fun p hp => by
      rcases List.mem_cons.mp hp with rfl | hp
      · exact .inr ⟨d', rfl, List.mem_cons_self⟩
      · exact .inl (List.mem_append_right _ hp)
    exact q d' k v H' o ⟨F', g.trans g2, e2⟩
  · obtain ⟨_, z⟩ := ho _ _ o
    cases z
  · obtain ⟨_, z⟩ := ho _ _ o
    cases z
theorem g_call {Cc : Ct} {ws : List W} {out : Oc} {i : Nat} (kr : Cells) (ha : EvA K tr ro ka ws (k1 ++ kr)) (hC : Cc ws k1 out) (ho : ∀ o k, out o k → ∃ d, o = .ret d) (k : ∀ d k2, out (.ret d) k2 → Gp K B F0 ta De.nx (ro.set i (some (.val d))) (k2 ++ kr)) :
    Gp K B F0 ta (tAsg (tCall (spC K Cc) [] E tr) (gName i) De) ro ka := fun sg H e => ha B F0 ta sg H _ e fun vs H1 hl e1 => by
  rw [List.append_nil]
  exact sp_rel e1 hl hC ho fun d k2 v H' o e2 => k d k2 o _ _ (e2.set i)
theorem q_call {Cc : Ct} {ws : List W} {out : Oc} {i : Nat} (kr : Cells) (ha : EvA K tr ro ka ws (k1 ++ kr)) (hC : Cc ws k1 out) (ho : ∀ o k, out o k → ∃ d, o = .ret d) (k : ∀ d k2, out (.ret d) k2 → Gp K B F0 ta (u De) (ro.set i (some (.val d))) (k2 ++ kr)) :
    Gp K B F0 ta (tSeq (tAsg (tCall (spC K Cc) [] E tr) (gName i)) u De) ro ka := g_call (De := { De with nx := u De }) kr ha hC ho k
/-! ### returns -/
/-- a new cell is handed back as data -/
theorem g_retL {out : Oc} {ds : List D} (hr : RtOk K B F0 out De.rt) (h : EvN K te ro ka (.lst ds) k1) (o : out (.ret (.lst ds)) k1) : Gp K B F0 ta (tRet te De) ro ka := g_ret hr h.lst o
/-- .. as a cell -/
theorem g_retC {out : Oc} (hr : RtOk K B F0 out De.rt) (h : EvN K te ro ka n k1) (o : ∀ a, out (.ret (.adr a)) (k1 ++ [(a, n)])) : Gp K B F0 ta (tRet te De) ro ka := fun sg H e => h B F0 ta sg H _ e fun a H1 e1 =>
  hr (.adr a) _ (.ref a) H1 (o a) ((e1.push_imm (v := .ref a) (w := .val (.adr a)) fun _ => rfl).leave)
/-- .. of which a word tells -/
theorem g_retR {out : Oc} {R : Nd → Cells → Prop} (hr : RtOk K B F0 out De.rt) (h : EvNR K te ro ka R) (o : ∀ n k, R n k → ∃ ds, n = .lst ds ∧ out (.ret (.lst ds)) k) : Gp K B F0 ta (tRet te De) ro ka := fun sg H e => h B F0 ta sg H _ e fun n k a H1 r e1 => by
  obtain ⟨ds, rfl, o⟩ := o n k r
  exact hr (.lst ds) k (.ref a) H1 o e1.freeze_l.leave
theorem g_asgNR {R : Nd → Cells → Prop} {i : Nat} (h : EvNR K te ro ka R) (k : ∀ n k1 a, R n k1 → Gp K B F0 ta De.nx (ro.set i (some (.val (.adr a)))) (k1 ++ [(a, n)])) : Gp K B F0 ta (tAsg te (gName i) De) ro ka := fun sg H e => h B F0 ta sg H _ e fun n k1 a H1 r e1 => k n k1 a r _ _ (e1.setA i a)
theorem q_asgNR {R : Nd → Cells → Prop} {i : Nat} (h : EvNR K te ro ka R) (k : ∀ n k1 a, R n k1 → Gp K B F0 ta (u De) (ro.set i (some (.val (.adr a)))) (k1 ++ [(a, n)])) : Gp K B F0 ta (tSeq (tAsg te (gName i)) u De) ro ka := g_asgNR (De := { De with nx := u De }) h k
/-- a return of a call's end -/
theorem g_retS {Cc : Ct} {ws : List W} {out out' : Oc} (kr : Cells) (hr : RtOk K B F0 out De.rt) (ha : EvA K tr ro ka ws (k1 ++ kr)) (hC : Cc ws k1 out') (ho : ∀ o k, out' o k → ∃ d, o = .ret d) (o : ∀ d k2, out' (.ret d) k2 → out (.ret d) (k2 ++ kr)) :
    Gp K B F0 ta (tRet (tCall (spC K Cc) [] E tr) De) ro ka := fun sg H e => ha B F0 ta sg H _ e fun vs H1 hl e1 => by
  rw [List.append_nil]
  exact sp_rel e1 hl hC ho fun d k2 v H' o' e2 => hr d _ v H' (o d k2 o') e2.leave
theorem Gp.perm (h : Gp K B F0 ta P ro k1) (s : k1.Perm ka) : Gp K B F0 ta P ro ka := fun sg H e => h sg H (e.perm s)
end
end DL

/-! DN: comprehensions that map and choose; names, numbers (own work). -/
namespace DL
open PySem L2 PySem.W
section
variable {K : PySem.W.Frag} {ro : Ro} {ka k1 : Cells} {te : TE} {tt : TT} {wi : TI} {C : Cells → Prop} {j : Nat} {vs : List Nat} {α : Type}
theorem et_yes : EvT K tYes ro ka true ka := fun B F0 ta sg H Q e q => q H e
theorem take_succ_some {xs : List α} {i : Nat} {x : α} (h : xs[i]? = some x) : xs.take (i + 1) = xs.take i ++ [x] := by
  rw [List.take_succ, h]
  rfl
theorem evn_filt {xs : List α} {g : α → W} {f : α → D} {p : α → Bool} (h : EvI K wi ro ka (xs.map g) C k1) (hj : j ∈ vs) (hn : xs.length ≤ 1000000) (hC : C k1 ∧ ∀ x, C (k1 ++ [x]))
    (ht : ∀ x ∈ xs, EvT K tt ((wipeR ro vs).set j (some (g x))) k1 (p x) k1) (hs : ∀ x ∈ xs, p x = true → EvD K te ((wipeR ro vs).set j (some (g x))) k1 (.val (f x)) k1) : EvN K (tLc wi (gName j) tt te vs) ro ka (.lst ((xs.filter p).map f)) k1 := by
  refine evn_lc h hj (by rw [List.length_map]; exact hn) (fun i acc k => acc = ((xs.take i).filter p).map f ∧ k = k1) ⟨rfl, rfl⟩ (fun i acc k ⟨_, e⟩ => by subst e; exact hC) (fun i w acc k hw ⟨e1, e2⟩ => ?_) (fun acc k ⟨e1, e2⟩ => ⟨?_, e2⟩)
  · subst e1 e2
    rw [List.getElem?_map] at hw
    cases hx : xs[i]? with
    | none => rw [hx] at hw; cases hw
    | some x =>
      rw [hx] at hw
      cases hw
      have hm : x ∈ xs := List.mem_of_getElem? hx
      cases hp : p x with
      | false =>
        refine .inl ⟨k, hp ▸ ht x hm, ?_, rfl⟩
        rw [take_succ_some hx, List.filter_append]
        simp [hp]
      | true =>
        refine .inr ⟨k, k, f x, hp ▸ ht x hm, hs x hm hp, ?_, rfl⟩
        rw [take_succ_some hx, List.filter_append]
        simp [hp]
  · rw [e1, List.length_map, List.take_length]
theorem evn_map {xs : List α} {g : α → W} {f : α → D} (h : EvI K wi ro ka (xs.map g) C k1) (hj : j ∈ vs) (hn : xs.length ≤ 1000000) (hC : C k1 ∧ ∀ x, C (k1 ++ [x]))
    (hs : ∀ x ∈ xs, EvD K te ((wipeR ro vs).set j (some (g x))) k1 (.val (f x)) k1) : EvN K (tLc wi (gName j) tYes te vs) ro ka (.lst (xs.map f)) k1 := by
  have := evn_filt (tt := tYes) (p := fun _ => true) h hj hn hC (fun _ _ => et_yes) (fun x hx _ => hs x hx)
  have e : xs.filter (fun _ => true) = xs := List.filter_eq_self.mpr fun _ _ => rfl
  rwa [e] at this
end
/-! ### texts -/
theorem str_len (s : Str) : s.length = s.cps.toList.length := by
  show s.cps.size = _
  simp
theorem str_ext {s t : Str} (h : s.cps.toList = t.cps.toList) : s = t := by
  cases s with
  | mk a =>
    cases t with
    | mk b =>
      have : a = b := by
        have h2 : a.toList = b.toList := h
        exact Array.toList_inj.mp h2
      rw [this]
theorem str_nil {s : Str} (h : s.cps.toList = []) : s = ("" : Str) := str_ext h
def letL : List Nat := ("abcdefghijklmnopqrstuvwxyz" : Str).cps.toList
def digL : List Nat := ("0123456789" : Str).cps.toList
/-- is a text a name: its signs -/
def nmL : List Nat → Bool
  | [] => false
  | c :: r => decide ((c :: r).length ≤ 8) && (decide (c ∈ letL) && (c :: r).all fun x => decide (x ∈ letL) || decide (x ∈ digL))
def isNm (s : Str) : Bool := nmL s.cps.toList
theorem isNm_len {s : Str} (h : isNm s = true) : s.length ≤ 8 := by
  unfold isNm at h
  rw [str_len]
  cases hc : s.cps.toList with
  | nil => simp
  | cons c r =>
    rw [hc] at h
    unfold nmL at h
    rw [Bool.and_eq_true] at h
    exact of_decide_eq_true h.1
/-- .. data -/
def isNmD : D → Bool
  | .str s => isNm s
  | _ => false
/-- data that a name's test may be asked of -/
def nmOk : D → Prop
  | .str s => s.length ≤ 1000
  | d => tyD d ≠ none
theorem at0 {β : Type} {c : β} {r : List β} : atI (c :: r) 0 = some c := atI_nat (j := 0) rfl
theorem atZ {β : Type} {xs : List β} {i : Int} {x : β} (h0 : 0 ≤ i) (h : xs[i.toNat]? = some x) : atI xs i = some x := by
  have := atI_nat h
  rwa [Int.toNat_of_nonneg h0] at this
/-! ### cuts -/
theorem six_nat {n : Nat} {i : Int} (h0 : 0 ≤ i) (h1 : i ≤ n) (d : Nat) : HT.sIx n d (some i) = i.toNat := by
  unfold HT.sIx
  simp only
  first
    | omega
    | (split <;> omega)
    | (repeat' split) <;> omega
theorem six_none {n d : Nat} : HT.sIx n d none = d := rfl
theorem cut_from {β : Type} {xs : List β} {i : Int} (h0 : 0 ≤ i) (h1 : i ≤ xs.length) : cutD xs (some i) none = xs.drop i.toNat := by
  unfold cutD
  rw [six_nat h0 h1, six_none]
  exact List.take_of_length_le (by rw [List.length_drop]; exact Nat.le_refl _)
theorem cut_to {β : Type} {xs : List β} {i : Int} (h0 : 0 ≤ i) (h1 : i ≤ xs.length) : cutD xs none (some i) = xs.take i.toNat := by
  unfold cutD
  rw [six_nat h0 h1, six_none, List.drop_zero, Nat.sub_zero]
theorem cut_len {β : Type} (xs : List β) (lo hi : Option Int) : (cutD xs lo hi).length ≤ xs.length := by
  unfold cutD
  rw [List.length_take, List.length_drop]
  omega
/-! ### texts in lists -/
theorem eqD_str {a b : Str} : eqD (.str a) (.str b) = (a == b) := rfl
def stD (ss : List Str) : List D := ss.map .str
theorem stD_len (ss : List Str) : (stD ss).length = ss.length := List.length_map ..
theorem pl_stD (ss : List Str) (n : Nat) : (stD ss).all (pl n) = true := List.all_eq_true.mpr fun d hd => by
  obtain ⟨s, _, rfl⟩ := List.mem_map.mp hd
  cases n <;> rfl
theorem eqL_stD : ∀ xs ys : List Str, eqL (stD xs) (stD ys) = decide (xs = ys)
  | [], [] => rfl
  | [], _ :: _ => rfl
  | _ :: _, [] => rfl
  | x :: xs, y :: ys => by
    have ih := eqL_stD xs ys
    show (eqD (.str x) (.str y) && eqL (stD xs) (stD ys)) = _
    rw [ih, eqD_str]
    by_cases h1 : x = y
    · subst h1
      by_cases h2 : xs = ys
      · subst h2; simp
      · simp [h2]
    · simp [h1]
theorem lk1 {β : Type} {f : Str} {v : β} : List.lookup f [(f, v)] = some v := by simp [List.lookup]
theorem part_of {b : Bool} {ds : List D} (h : SqF b ds) {d : D} (hd : d ∈ ds) : part b d = .val d := by
  rcases h with h | h
  · subst h; rfl
  · have := List.all_eq_true.mp h d hd
    unfold part
    rw [this]
    simp
section
variable {K : PySem.W.Frag} {ka kr : Cells} {w : W} {t b : Bool} {ds : List D}
theorem Lk.stay (l : Lk ka w t ds b) : Stay w ds ka := by
  cases l with
  | vl => trivial
  | vt => trivial
  | wl => trivial
  | wt => trivial
  | ce j h => exact List.mem_of_getElem? h
theorem Lk.app (l : Lk ka w t ds b) : Lk (ka ++ kr) w t ds b := l.mono _ (by
  have := l.stay
  unfold Stay at this ⊢
  split
  · rename_i a
    exact List.mem_append_left _ this
  · trivial)
end
theorem find_first {β : Type} {p : β → Bool} {ds : List β} {i : Nat} {d : β} (h : ∀ e ∈ ds.take i, p e = false) (hi : ds[i]? = some d) (hp : p d = true) : ds.find? p = some d := by
  have e : ds = ds.take i ++ d :: ds.drop (i + 1) := by
    have hl := (List.getElem?_eq_some_iff.mp hi).1
    have h2 : ds[i] = d := (List.getElem?_eq_some_iff.mp hi).2
    rw [← h2, List.getElem_cons_drop, List.take_append_drop]
  rw [e, List.find?_append, List.find?_eq_none.mpr (fun x hx => by rw [h x hx]; exact Bool.false_ne_true)]
  simp [hp]
theorem find_none {β : Type} {p : β → Bool} {ds : List β} (h : ∀ e ∈ ds, p e = false) : ds.find? p = none := List.find?_eq_none.mpr fun x hx => by rw [h x hx]; exact Bool.false_ne_true
end DL
namespace DL
open PySem L2 PySem.W
section
variable {K : PySem.W.Frag} {B F0 : Hp} {ro : Ro} {ka k1 k2 : Cells} {ta : List (V × W)} {tt : TT} {De : Ends} {t u : TS}
/-- an if whose ends meet again under a word -/
theorem q_whenI {b : Bool} (Inv : Ro → Cells → Prop) (h : EvT K tt ro ka b k1) (h1 : b = true → ∀ nx, (∀ ro2 ka2, Inv ro2 ka2 → Gp K B F0 ta nx ro2 ka2) → Gp K B F0 ta (t { De with nx := nx }) ro k1) (h2 : b = false → Inv ro k1) (k : ∀ ro2 ka2, Inv ro2 ka2 → Gp K B F0 ta (u De) ro2 ka2) : Gp K B F0 ta (tSeq (tIfS tt t tNext) u De) ro ka :=
  q_when h (fun hb => h1 hb _ k) fun hb => k _ _ (h2 hb)
end
/-! ### the pool of the laws -/
structure Pl where
  a : Int
  b : Int
  c : Int
def Pl.ds (p : Pl) : List D := [.int p.a, .int p.b, .int p.c]
structure Pl.Ok (p : Pl) (n : Int) : Prop where
  a0 : 0 ≤ p.a
  b0 : 0 ≤ p.b
  b1 : p.b < 1000000007
  c0 : 0 ≤ p.c
  c1 : p.c ≤ n
theorem Pl.Ok.up {p : Pl} {m n : Int} (h : p.Ok m) (l : m ≤ n) : p.Ok n := ⟨h.a0, h.b0, h.b1, h.c0, Int.le_trans h.c1 l⟩
def fldZ (z : Int) : Int := if z < 0 then 0 - 2 * z - 1 else 2 * z
def plOf (z : Int) : Pl := if fldZ z ≥ 10 ^ 18 then ⟨fldZ z, fldZ z % 1000000007, 0⟩ else ⟨0, fldZ z % 1000000007, 0⟩
theorem fldZ_nn (z : Int) : 0 ≤ fldZ z := by
  unfold fldZ
  split <;> omega
theorem plOf_ok (z : Int) : (plOf z).Ok 0 := by
  have h := fldZ_nn z
  have h0 : 0 ≤ fldZ z % 1000000007 := Int.emod_nonneg _ (by decide)
  have h1 : fldZ z % 1000000007 < 1000000007 := Int.emod_lt_of_pos _ (by decide)
  unfold plOf
  split
  · exact ⟨h, h0, h1, Int.le_refl _, Int.le_refl _⟩
  · exact ⟨Int.le_refl _, h0, h1, Int.le_refl _, Int.le_refl _⟩
/-- one draw below m -/
def tk (p : Pl) (m : Int) : Int × Pl :=
  if 0 < p.a then (p.a % m, ⟨p.a / m, p.b, p.c⟩)
  else (((p.b + 7919 * (p.c + 1) + 104729) ^ (5 : Int).toNat % 2147483647 + (p.c + 1)) * 40692 % 2147483629 % m, ⟨p.a, p.b, p.c + 1⟩)
theorem tk_lt (p : Pl) {m : Int} (h : 0 < m) : 0 ≤ (tk p m).1 ∧ (tk p m).1 < m := by
  unfold tk
  split
  · exact ⟨Int.emod_nonneg _ (by omega), Int.emod_lt_of_pos _ h⟩
  · exact ⟨Int.emod_nonneg _ (by omega), Int.emod_lt_of_pos _ h⟩
theorem tk_ok {p : Pl} {n m : Int} (h : p.Ok n) (hm : 0 < m) : (tk p m).2.Ok (n + 1) := by
  obtain ⟨h1, h2, h3, h4, h5⟩ := h
  unfold tk
  split
  · exact ⟨Int.ediv_nonneg h1 (by omega), h2, h3, h4, by show p.c ≤ n + 1; omega⟩
  · exact ⟨h1, h2, h3, by show 0 ≤ p.c + 1; omega, by show p.c + 1 ≤ n + 1; omega⟩
end DL

/-! DP: texts by their signs (own work). -/
namespace DL
open PySem L2 PySem.W
/-- the text of these signs -/
def tx (l : List Nat) : Str := ⟨l.toArray⟩
theorem tx_cps (l : List Nat) : (tx l).cps.toList = l := rfl
theorem tx_len (l : List Nat) : (tx l).length = l.length := by rw [str_len, tx_cps]
theorem tx_app (l m : List Nat) : tx l ++ tx m = tx (l ++ m) := by
  refine str_ext ?_
  show ((tx l).cps ++ (tx m).cps).toList = l ++ m
  rw [Array.toList_append]
  rfl
theorem tx_cut (l : List Nat) (lo hi : Option Int) : cutS (tx l) lo hi = tx (cutD l lo hi) := by
  unfold cutS cutD
  rw [tx_cps, tx_len]
  rfl
theorem letters_tx : ("abcdefghijklmnopqrstuvwxyz" : Str) = tx letL := str_ext rfl
theorem digits_tx : ("0123456789" : Str) = tx digL := str_ext rfl
theorem let_len : letL.length = 26 := by decide
theorem sig_len : (letL ++ digL).length = 36 := by decide
theorem isNm_tx (l : List Nat) : isNm (tx l) = nmL l := by unfold isNm; rw [tx_cps]
theorem nmL_of {c : Nat} {r : List Nat} (h : c ∈ letL) (h2 : ∀ x ∈ c :: r, x ∈ letL ++ digL) (hl : (c :: r).length ≤ 8) : nmL (c :: r) = true := by
  show (decide ((c :: r).length ≤ 8) && (decide (c ∈ letL) && (c :: r).all fun x => decide (x ∈ letL) || decide (x ∈ digL))) = true
  rw [decide_eq_true hl, decide_eq_true h, Bool.true_and, Bool.true_and, List.all_eq_true]
  intro x hx
  rw [Bool.or_eq_true, decide_eq_true_eq, decide_eq_true_eq]
  exact List.mem_append.mp (h2 x hx)
/-- a name, its signs -/
theorem nm_of {l : List Nat} (h0 : ∃ c, l.head? = some c ∧ c ∈ letL) (h2 : ∀ x ∈ l, x ∈ letL ++ digL) (hl : l.length ≤ 8) : isNm (tx l) = true := by
  rw [isNm_tx]
  obtain ⟨c, hc, hm⟩ := h0
  cases l with
  | nil => cases hc
  | cons d r =>
    cases hc
    exact nmL_of hm h2 hl
/-- a drawn sign -/
theorem sgn_at {l : List Nat} {i : Int} (h0 : 0 ≤ i) (h1 : i < l.length) : ∃ c, atI l i = some c ∧ c ∈ l := by
  have hlt : i.toNat < l.length := by omega
  exact ⟨l[i.toNat], atZ h0 (List.getElem?_eq_getElem hlt), List.getElem_mem hlt⟩
section
variable {K : PySem.W.Frag} {ro : Ro} {ka k1 k2 k3 : Cells} {te tf : TE} {tl th : TO}
theorem ev_ixT {l : List Nat} {i : Int} {c : Nat} (h : EvD K te ro ka (.val (.str (tx l))) k1) (h2 : EvD K tf ro k1 (.val (.int i)) k2) (hs : l.length ≤ 1000) (hc : atI l i = some c) : EvD K (tOp (rIx K) te tf) ro ka (.val (.str (tx [c]))) k2 := ev_ixS h h2 (by rw [tx_len]; omega) (by rw [tx_cps]; exact hc)
theorem ev_addT {l m : List Nat} (h : EvD K te ro ka (.val (.str (tx l))) k1) (h2 : EvD K tf ro k1 (.val (.str (tx m))) k2) (hz : l.length + m.length ≤ 1000) : EvD K (tOp (rAddU K) te tf) ro ka (.val (.str (tx (l ++ m)))) k2 := (ev_addS h h2 (by rw [tx_len, tx_len]; omega)).to (by rw [tx_app])
theorem ev_slX {lo hi : Option Int} {l : List Nat} (ha : EvD K te ro ka (.val (.str (tx l))) k1) (h1 : EvO K tl ro k1 lo k2) (h2 : EvO K th ro k2 hi k3) (hs : l.length ≤ 1000) : EvD K (tSl (rSlU K) te tl th) ro ka (.val (.str (tx (cutD l lo hi)))) k3 := (ev_slS ha h1 h2 (by rw [tx_len]; omega)).to (by rw [tx_cut])
theorem ev_lenX {l : List Nat} (h : EvD K te ro ka (.val (.str (tx l))) k1) (hs : l.length ≤ 1000) : EvD K (tCB (rLenU K) (tCons te tNil)) ro ka (.val (.int l.length)) k1 := (ev_lenS h (by rw [tx_len]; omega)).to (by rw [tx_len])
end
end DL

/-! DR: expressions that raise, by data (own work). -/
namespace DL
open PySem L2 PySem.W
/-- te ends with an exception of C1, with the fields gs -/
def EvX (K : PySem.W.Frag) (te : TE) (ro : Ro) (ka : Cells) (E : XK) (C1 : Addr) (gs : List (Str × D)) (k2 : Cells) : Prop := ∀ B F0 ta sg H (Q : VK), En K B F0 ro ka ta sg H → (∀ dx H', En K B F0 ro (k2 ++ [(dx, .xd gs)]) ta sg H' → E (.ref C1) (some dx) H') → te sg H Q
section
variable {K : PySem.W.Frag} {B F0 : Hp} {ro : Ro} {ka k1 k2 k3 kr : Cells} {ta : List (V × W)} {sg : L2.St} {H : Hp} {te tf : TE} {tr : TA} {x y : W} {C C1 : Addr} {fs gs : List (Str × D)} {b : Bool} {E : XK} {De : Ends}
theorem evx_call {Cc : Ct} {ws : List W} {E' : XK} (ha : EvA K tr ro ka ws (k2 ++ kr)) (hC : Cc ws k2 (Xt C1 gs k3)) (hE : E' = E) : EvX K (tCall (spC K Cc) [] E' tr) ro ka E C1 gs (k3 ++ kr) := fun B F0 ta sg H Q e q => by
  subst hE
  refine ha B F0 ta sg H _ e fun vs H1 hl e1 => ?_
  rw [List.append_nil]
  refine sp_exc e1 hl hC (fun _ _ z => z) fun dx H' e3 => q dx H' (e3.perm ?_)
  rw [List.append_assoc, List.append_assoc]
  exact List.Perm.append_left _ List.perm_append_comm
end
end DL
namespace DL
open PySem L2 PySem.W
theorem cut_to' {β : Type} {xs : List β} {i : Int} (h0 : 0 ≤ i) : cutD xs none (some i) = xs.take i.toNat := by
  by_cases h1 : i ≤ xs.length
  · exact cut_to h0 h1
  · unfold cutD HT.sIx
    dsimp only
    rw [if_neg (by omega), List.drop_zero, Nat.sub_zero, Nat.min_eq_right (by omega), List.take_of_length_le (Nat.le_refl _), List.take_of_length_le (by omega)]
theorem stD_app (xs ys : List Str) : stD xs ++ stD ys = stD (xs ++ ys) := by unfold stD; rw [List.map_append]
end DL
namespace DL
open PySem L2 PySem.W
/-- the end of a loop within a loop -/
theorem g_jpH {K : PySem.W.Frag} {B F0 : Hp} {ta ta' : List (V × W)} {Inv : Ro → Cells → Prop} {ro : Ro} {ka : Cells} (h : ∀ p ∈ ta, p ∈ ta') (i : Inv ro ka) : Gp K B F0 ta' (Jp K B F0 ta Inv) ro ka := fun sg H e => ⟨ro, ka, i, e.held h⟩
end DL
namespace DL
open PySem L2 PySem.W
def inD (ns : List Int) : List D := ns.map .int
/-- w is the script -/
def Scr (K : PySem.W.Frag) (w : W) (ns : List Int) : Prop := w = .val (.lst (inD ns)) ∨ ∃ p, w = .val (.adr p) ∧ ∀ H, SqL K H p (ns.map V.int)
theorem law_sp {K : PySem.W.Frag} {Cc : Ct} {H : Hp} {a : Addr} {ns : List Int} (hC : ∀ z, Scr K z ns → Cc [z] [] (Rt (.bl true) [])) (hS : SqL K H a (ns.map V.int)) : spC K Cc [.ref a] H (fun v _ => v = .bl true) fun _ _ _ => False := by
  have rt : ∀ {B F0 : Hp}, RtOk K B F0 (Rt (.bl true) []) (fun v _ => v = .bl true) := fun {B F0} d ka v H' o e => by
    obtain ⟨h, _⟩ := o
    cases h
    exact e.tm_bl List.mem_cons_self
  have rx : ∀ {B F0 : Hp}, RxOk K B F0 (Rt (.bl true) []) (fun _ _ _ => False) := fun {B F0} => ⟨fun C fs ka dx H' o _ => (by cases o.1), fun C ka H' o _ => (by cases o.1)⟩
  have nob : Sub (fun _ => none) H := fun _ _ h => by cases h
  rcases id hS with h | h
  · refine ⟨fun _ => none, gH H, [.val (.lst (inD ns))], [], _, hC _ (.inl rfl), rfl, ⟨gH H, Gr.refl _ _, gH_nz, gH_exz, nob, List.nodup_nil, fun p hp => (by cases hp), rfl, fun i w e => by simp at e, fun p hp => ?_⟩, rt, rx⟩
    have hp2 : p = (V.ref a, W.val (.lst (inD ns))) := by simpa using hp
    subst hp2
    refine ⟨a, ns.map V.int, rfl, .inl ?_, rpl_ints ns⟩
    unfold gH
    rcases h with h | ⟨o, h⟩
    · rw [h]
    · rw [h]
      rfl
  · refine ⟨fun _ => none, fun _ => none, [.val (.adr a)], [], _, hC _ (.inr ⟨a, rfl, fun _ => .inr h⟩), rfl, ⟨fun _ => none, Gr.refl _ _, fun _ _ h => (by cases h), fun _ _ h => (by cases h), nob, List.nodup_nil, fun p hp => (by cases hp), rfl, fun i w e => by simp at e, fun p hp => ?_⟩, rt, rx⟩
    have hp2 : p = (V.ref a, W.val (.adr a)) := by simpa using hp
    subst hp2
    rfl
/-- what the head must tell of a law's def: its contract, kept by every list of numbers -/
def LawIn (l : PySem.W.OpenLaw) (k : Nat) (x : Str) (w : World) (mg : Str → Option Value) (f : Addr) (h : Heap) : Prop :=
  ∃ (K : PySem.W.Frag) (Cc : Ct) (fd : FuncData), K.In h ∧ (∀ z ns, Scr K z ns → Cc [z] [] (Rt (.bl true) [])) ∧ (∀ (s : Shared) (u : Value), BindsTo s fd ⟨[u], []⟩ [(x, u)]) ∧ ∀ base : Heap, FnOk l.prog w K mg base (L2.CX l.prog w) k f fd [x] (spC K Cc)
abbrev LawWalk (l : PySem.W.OpenLaw) (q : Program) (loose : List Str) (XP : (Str → Option Value) → Heap → Prop) (YP : World → Heap → Prop) (d : DefRec) : Prop := PySem.W.WalkO q loose XP YP l.row.toRowW d [] (fun g us => PySem.call g us)
/-- the law's walk, from what the head tells -/
theorem walk_D {l : PySem.W.OpenLaw} {n k : Nat} {q : Program} {loose : List Str} {XP : (Str → Option Value) → Heap → Prop} {YP : World → Heap → Prop} {d : DefRec} {x : Str} (most : l.most = some n) (fits : n ≤ sizeLine)
    (plain : d.params.defaults = []) (room : Room k callerA) (told : ∀ w mg f h, YP w h → h.Ns mainGlobals mg → mg d.name = some (.ref f) → LawIn l k x w mg f h) : LawWalk l q loose XP YP d :=
  Att.attach_call most plain fun w _ _ mg _ f _ _ _ _ arg vs ns G known _ _ _ at_ obj nums short grown => by
    have ⟨K, Cc, fd, inH, keeps, binds, ok⟩ := told w mg f _ known G.T.g at_
    exact law_call inH G.T.g G.T.b G.T.builtins G.T.nolimit grown obj nums (Nat.le_trans short fits) room (fun base _ _ => ok base) binds (fun H _ S => law_sp (fun z hz => keeps z ns hz) S) fun H e s' z => by
      obtain ⟨_, _, _, _, _, _, _, _, _, _, _, _, bad⟩ := z
      exact bad
end DL

/-! DU: tuple * number (own work). -/
namespace DL
open PySem PySem.Spec PyProof.Rows L2
section
open PySem.W
variable {K : PySem.W.Frag} {ro : Ro} {ka k1 k2 : Cells} {te tf : TE}
/-- name op= number -/
theorem g_augI {B F0 : Hp} {ta : List (V × W)} {De : Ends} {i : Nat} {x y z : Int} {ti : TIp} (hi : ro[i]? = some (some (.val (.int x)))) (h : EvD K te ro ka (.val (.int y)) k1) (ht : ∀ H Q, Q (.int z) H → ti (.int x) (.int y) H Q) (k : Gp K B F0 ta De.nx (ro.set i (some (.val (.int z)))) k1) : Gp K B F0 ta (tAug i te ti De) ro ka := fun sg H e => by
  obtain ⟨F, g, ef⟩ := id e
  obtain ⟨v, h1, h2⟩ := ef.sl i _ hi
  have hv : v = .int x := h2
  subst hv
  refine ⟨_, h1, h B F0 ta sg H _ e fun w H1 e1 => ?_⟩
  have hw := e1.tm_int (v := w) (i := y) List.mem_cons_self
  subst hw
  exact ht _ _ (k _ _ ((e1.pop.push_imm (v := .int z) (w := .val (.int z)) fun _ => rfl).set i))
end
end DL

/-! DV: dicts, sorted texts, data compared by < (own work). -/
namespace DL
open PySem L2 PySem.W

/-! ### tables -/
section
variable {κ α β : Type} [DecidableEq κ]
def getT (kvs : List (κ × α)) (k : κ) : Option α := (kvs.find? fun kv => decide (kv.1 = k)).map (·.2)
def hasT (kvs : List (κ × α)) (k : κ) : Bool := kvs.any fun p => decide (p.1 = k)
def newAt (k : κ) (v : α) (p : κ × α) : κ × α := if p.1 = k then (p.1, v) else p
/-- a key that stands keeps its place, a new one comes last -/
def putT (kvs : List (κ × α)) (k : κ) (v : α) : List (κ × α) := if hasT kvs k = true then kvs.map (newAt k v) else kvs ++ [(k, v)]
def dropT (kvs : List (κ × α)) (k : κ) : List (κ × α) := kvs.filter fun kv => decide (kv.1 ≠ k)
/-- tables of the same keys -/
def PT (R : α → β → Prop) : List (κ × α) → List (κ × β) → Prop
  | [], xs => xs = []
  | (k, d) :: ds, xs => ∃ x ys, xs = (k, x) :: ys ∧ R d x ∧ PT R ds ys
variable {R : α → β → Prop}
theorem PT.any : ∀ {ds : List (κ × α)} {xs : List (κ × β)}, PT R ds xs → ∀ k, hasT xs k = hasT ds k
  | [], xs, h, k => by rw [show xs = [] from h]; rfl
  | (k', d) :: ds, xs, h, k => by
    obtain ⟨x, ys, rfl, _, h2⟩ := h
    unfold hasT
    rw [List.any_cons, List.any_cons]
    exact congrArg (fun z => decide (k' = k) || z) (PT.any h2 k)
theorem PT.map (k : κ) {d : α} {x : β} (r : R d x) : ∀ {ds : List (κ × α)} {xs : List (κ × β)}, PT R ds xs → PT R (ds.map (newAt k d)) (xs.map (newAt k x))
  | [], xs, h => by rw [show xs = [] from h]; rfl
  | (k', d') :: ds, xs, h => by
    obtain ⟨x', ys, rfl, h1, h2⟩ := h
    have rest := PT.map k r h2
    by_cases e : k' = k
    · have e1 : newAt k d (k', d') = (k', d) := if_pos e
      have e2 : newAt k x (k', x') = (k', x) := if_pos e
      rw [List.map_cons, e1, List.map_cons, e2]
      exact ⟨x, _, rfl, r, rest⟩
    · have e1 : newAt k d (k', d') = (k', d') := if_neg e
      have e2 : newAt k x (k', x') = (k', x') := if_neg e
      rw [List.map_cons, e1, List.map_cons, e2]
      exact ⟨x', _, rfl, h1, rest⟩
theorem PT.snoc {k : κ} {d : α} {x : β} (r : R d x) : ∀ {ds : List (κ × α)} {xs : List (κ × β)}, PT R ds xs → PT R (ds ++ [(k, d)]) (xs ++ [(k, x)])
  | [], xs, h => by rw [show xs = [] from h]; exact ⟨x, [], rfl, r, rfl⟩
  | (k', d') :: ds, xs, h => by
    obtain ⟨x', ys, rfl, h1, h2⟩ := h
    exact ⟨x', _, rfl, h1, PT.snoc r h2⟩
theorem PT.put {ds : List (κ × α)} {xs : List (κ × β)} (h : PT R ds xs) (k : κ) {d : α} {x : β} (r : R d x) : PT R (putT ds k d) (putT xs k x) := by
  unfold putT
  rw [h.any k]
  split
  · exact h.map k r
  · exact h.snoc r
theorem PT.drop (k : κ) : ∀ {ds : List (κ × α)} {xs : List (κ × β)}, PT R ds xs → PT R (dropT ds k) (dropT xs k)
  | [], xs, h => by rw [show xs = [] from h]; rfl
  | (k', d') :: ds, xs, h => by
    obtain ⟨x', ys, rfl, h1, h2⟩ := h
    unfold dropT
    rw [List.filter_cons, List.filter_cons]
    by_cases e : k' = k
    · rw [if_neg (by simpa using e), if_neg (by simpa using e)]; exact PT.drop k h2
    · rw [if_pos (by simpa using e), if_pos (by simpa using e)]; exact ⟨x', _, rfl, h1, PT.drop k h2⟩
theorem PT.get (k : κ) : ∀ {ds : List (κ × α)} {xs : List (κ × β)}, PT R ds xs → (getT ds k = none → getT xs k = none) ∧ ∀ d, getT ds k = some d → ∃ x, getT xs k = some x ∧ R d x
  | [], xs, h => by rw [show xs = [] from h]; exact ⟨fun _ => rfl, fun d q => by cases q⟩
  | (k', d') :: ds, xs, h => by
    obtain ⟨x', ys, rfl, h1, h2⟩ := h
    by_cases e : k' = k
    · have e1 : getT ((k', d') :: ds) k = some d' := by simp [getT, List.find?_cons, e]
      have e2 : getT ((k', x') :: ys) k = some x' := by simp [getT, List.find?_cons, e]
      rw [e1, e2]
      refine ⟨fun q => (by cases q), fun d q => ?_⟩
      cases q
      exact ⟨x', rfl, h1⟩
    · have e1 : getT ((k', d') :: ds) k = getT ds k := by simp [getT, List.find?_cons, e]
      have e2 : getT ((k', x') :: ys) k = getT ys k := by simp [getT, List.find?_cons, e]
      rw [e1, e2]
      exact PT.get k h2
theorem PT.len : ∀ {ds : List (κ × α)} {xs : List (κ × β)}, PT R ds xs → xs.length = ds.length
  | [], xs, h => by rw [show xs = [] from h]; rfl
  | (k', d') :: ds, xs, h => by
    obtain ⟨x', ys, rfl, h1, h2⟩ := h
    rw [List.length_cons, List.length_cons, PT.len h2]
theorem PT.at : ∀ {ds : List (κ × α)} {xs : List (κ × β)}, PT R ds xs → ∀ {i : Nat} {p : κ × α}, ds[i]? = some p → ∃ x, xs[i]? = some (p.1, x) ∧ R p.2 x
  | [], xs, h, i, p, e => by simp at e
  | (k', d') :: ds, xs, h, 0, p, e => by
    obtain ⟨x', ys, rfl, h1, h2⟩ := h
    cases e
    exact ⟨x', rfl, h1⟩
  | (k', d') :: ds, xs, h, i + 1, p, e => by
    obtain ⟨x', ys, rfl, h1, h2⟩ := h
    exact PT.at h2 (i := i) (by simpa using e)
theorem putT_len (kvs : List (κ × α)) (k : κ) (v : α) : (putT kvs k v).length ≤ kvs.length + 1 := by
  unfold putT
  split
  · rw [List.length_map]; omega
  · rw [List.length_append, List.length_cons, List.length_nil]; omega
end
theorem rpk_pt {K : PySem.W.Frag} {F : Hp} : ∀ {ds : List (Key × D)} {xs : List (Key × V)}, RpK K F ds xs ↔ PT (Rp K F) ds xs
  | [], xs => Iff.rfl
  | (k, d) :: ds, xs => ⟨fun ⟨x, ys, e, h1, h2⟩ => ⟨x, ys, e, h1, rpk_pt.mp h2⟩, fun ⟨x, ys, e, h1, h2⟩ => ⟨x, ys, e, h1, rpk_pt.mpr h2⟩⟩
theorem rpt_pt {K : PySem.W.Frag} {F : Hp} : ∀ {ds : List (List Key × D)} {xs : List (List Key × V)}, RpT K F ds xs ↔ PT (Rp K F) ds xs
  | [], xs => Iff.rfl
  | (k, d) :: ds, xs => ⟨fun ⟨x, ys, e, h1, h2⟩ => ⟨x, ys, e, h1, rpt_pt.mp h2⟩, fun ⟨x, ys, e, h1, h2⟩ => ⟨x, ys, e, h1, rpt_pt.mpr h2⟩⟩
/-- a key as data -/
def kD : Key → D
  | .inl i => .int i
  | .inr s => .str s

section
variable {K : PySem.W.Frag} {B F F0 : Hp} {ro : Ro} {ka k1 k2 k3 kr : Cells} {ta : List (V × W)} {sg : L2.St} {H H' : Hp} {te tf tg tk tv : TE} {tr : TA} {tt tu : TT} {w x y z : W} {n m : Nd} {C dx a : Addr} {b : Bool} {P : L2.St → Hp → Prop} {De : Ends} {t u : TS} {E : XK}
theorem En.tm_key (e : En K B F0 ro ka ta sg H) {v : V} {k : Key} (h : (v, W.val (kD k)) ∈ ta) : v = kV k := by
  cases k with
  | inl i => exact e.tm_int h
  | inr s => exact e.tm_str h
/-! ### a dict that is the def's own, locked while it is walked -/
theorem En.cellAt (e : En K B F0 ro ka ta sg H) {j : Nat} (hj : ka[j]? = some (a, n)) : ∃ F, Gr B F0 F ∧ EnF K B F ro ka ta sg H ∧ NdOk K F H a n := let ⟨F, g, q⟩ := e; ⟨F, g, q, (q.ce _ (List.mem_of_getElem? hj)).2.2⟩
theorem rpl_strs {F : Hp} : ∀ {ss : List Str} {vs : List V}, RpL K F (stD ss) vs → vs = ss.map V.str
  | [], vs, h => h
  | s :: ss, vs, h => by
    obtain ⟨x, ys, rfl, h1, h2⟩ := h
    rw [rpl_strs h2, show x = V.str s from h1]
    rfl
/-- the different ones, in the order in which they come -/
def dedS (xs : List Str) : List Str := xs.foldl (fun acc s => if s ∈ acc then acc else acc ++ [s]) []
end
end DL

/-! DW: data of any depth: in, < (own work). -/
namespace DL
open PySem L2 PySem.W PySem.SeqAt
mutual
def pdD : D → PyData
  | .bl b => .bool b | .int i => .int i | .str s => .str s
  | .tup ds => .tuple (pdL ds) | .lst ds => .list (pdL ds)
  | _ => .none
def pdL : List D → List PyData
  | [] => []
  | d :: ds => pdD d :: pdL ds
end
section
variable {X : Cx} {pins : List (Addr × Obj)} {sg : L2.St} {H G : Hp} {s : Shared}
end
/-- values of α as data -/
structure Enc (α : Type) [DecidableEq α] [Datum α] (f : α → D) : Prop where
  pd : ∀ a, pdD (f a) = Datum.toD a
  pl : ∀ a, DL.pl 60 (f a) = true
section
variable {K : PySem.W.Frag} {B F F0 : Hp} {ro : Ro} {ka k1 k2 k3 kr : Cells} {ta : List (V × W)} {sg : L2.St} {H H' : Hp} {te tf tg : TE} {w x y z : W}
variable {α : Type} [DecidableEq α]
end

end DL

/-! DX: a dict comprehension stored in a local name on its own line (own work over the hand layer's dc_core). -/
namespace DL
open PySem PySem.Spec PyProof.Rows L2
section
variable {X : Cx} {i : Nat} {y : Str} {py pos spos : Pos} {kx vx tg iter : Expr} {ifs : List Expr} {scope : Scope} {own : List (Str × Nat)} {wi : TI} {g : TG} {tt : TT} {tk tv : TE}
end
end DL

/-! DY: != of two tuples whose items are equal, some by an own == (own work; the equality of the items is the hand layer's EqG). -/
namespace DL
open PySem L2 PySem.SeqAt
section
variable {prog : Program} {w : World}
/-- pair by pair the == says yes, whatever objects it makes on the way; then fin holds -/
def Goes (prog : Program) (w : World) (A : Around) (E : Value → Shared → Prop) (fin : Shared → Prop) : List (Value × Value) → Shared → Prop
  | [], s => fin s
  | p :: r, s => wpAny (model prog w) A (eqBool p.1 p.2) (fun yes s1 => yes = true ∧ Goes prog w A E fin r s1) E s
end
section
variable {X : Cx} {n : Nat} {D : Eqv}
end
end DL
namespace DL
open PySem L2 PySem.W
section
variable {K : PySem.W.Frag} {B F F0 : Hp} {ro : Ro} {ka k1 k2 : Cells} {ta : List (V × W)} {sg : L2.St} {H H' : Hp} {te tf : TE} {C : Addr} {Cc : Ct}
theorem En.ext (e : En K B F0 ro ka ta sg H) (x : L2.Ext H H') : En K B F0 ro ka ta sg H' := by
  obtain ⟨F, g, q⟩ := e
  refine ⟨F, g, q.nz, q.fz.sub x, fun a o h => x _ _ (q.fr _ _ h), q.nd, fun p hp => ?_, q.ln, q.sl, q.tm⟩
  obtain ⟨h1, h2, h3⟩ := q.ce p hp
  refine ⟨h1, h2, ?_⟩
  obtain ⟨a, n⟩ := p
  cases n with
  | lst ds => obtain ⟨xs, e, r⟩ := h3; exact ⟨xs, x _ _ e, r⟩
  | dic ds => obtain ⟨xs, e, r⟩ := h3; exact ⟨xs, x _ _ e, r⟩
  | dit ds => obtain ⟨xs, e, r⟩ := h3; exact ⟨xs, x _ _ e, r⟩
  | ldic o xs ds => obtain ⟨e, r⟩ := h3; exact ⟨x _ _ e, r⟩
  | ins C ds => obtain ⟨dx, xs, e, r⟩ := h3; exact ⟨dx, xs, x _ _ e, r⟩
  | xd ds => obtain ⟨xs, e, r⟩ := h3; exact ⟨xs, x _ _ e, r⟩
  | din w ds => obtain ⟨xs, e, r⟩ := h3; exact ⟨xs, x _ _ e, r⟩
end
end DL

/-! DZ: evaluation by a relation (own work). -/
namespace DL
open PySem L2 PySem.W
/-- te ends with some value and cells of which P tells -/
def EvR (K : PySem.W.Frag) (te : TE) (ro : Ro) (ka : Cells) (P : W → Cells → Prop) : Prop := ∀ B F0 ta sg H (Q : VK), En K B F0 ro ka ta sg H → (∀ w k v H', P w k → En K B F0 ro k ((v, w) :: ta) sg H' → Q v H') → te sg H Q
def RvR (K : PySem.W.Frag) (r : R2) (ka : Cells) (x y : W) (P : W → Cells → Prop) : Prop := ∀ B F0 ro ta sg H u v (Q : VK), En K B F0 ro ka ta sg H → (u, x) ∈ ta → (v, y) ∈ ta → (∀ w k t H', P w k → En K B F0 ro k ((t, w) :: ta) sg H' → Q t H') → r u v H Q
section
variable {K : PySem.W.Frag} {B F F0 : Hp} {ro : Ro} {ka k1 k2 k3 kr : Cells} {ta : List (V × W)} {sg : L2.St} {H H' : Hp} {te tf tg : TE} {tr : TA} {w x y z : W} {n : Nd} {P P2 : W → Cells → Prop} {De : Ends} {u : TS} {E : XK} {r : R2}
theorem EvD.toR (h : EvD K te ro ka w k1) : EvR K te ro ka (fun w' k => w' = w ∧ k = k1) := fun B F0 ta sg H Q e q => h B F0 ta sg H Q e fun v H' e' => q w k1 v H' ⟨rfl, rfl⟩ e'
theorem En.tmA (e : En K B F0 ro ka ta sg H) (a : Addr) : En K B F0 ro ka ((.ref a, .val (.adr a)) :: ta) sg H := e.push_imm fun _ => rfl
theorem EvN.toR (h : EvN K te ro ka n k1) : EvR K te ro ka (fun w' k => ∃ a, w' = .val (.adr a) ∧ k = k1 ++ [(a, n)]) := fun B F0 ta sg H Q e q => h B F0 ta sg H Q e fun a H' e' => q _ _ _ H' ⟨a, rfl, rfl⟩ (e'.tmA a)
theorem EvR.imp (h : EvR K te ro ka P) (i : ∀ w k, P w k → P2 w k) : EvR K te ro ka P2 := fun B F0 ta sg H Q e q => h B F0 ta sg H Q e fun w k v H' p => q w k v H' (i w k p)
theorem RvD.toR (h : RvD K r ka x y z) : RvR K r ka x y (fun w' k => w' = z ∧ k = ka) := fun B F0 ro ta sg H u v Q e h1 h2 q => h B F0 ro ta sg H u v Q e h1 h2 fun t H' e' => q z ka t H' ⟨rfl, rfl⟩ e'
theorem RvN.toR (h : RvN K r ka x y n) : RvR K r ka x y (fun w' k => ∃ a, w' = .val (.adr a) ∧ k = ka ++ [(a, n)]) := fun B F0 ro ta sg H u v Q e h1 h2 q => h B F0 ro ta sg H u v Q e h1 h2 fun a H' e' => q _ _ _ H' ⟨a, rfl, rfl⟩ (e'.tmA a)
theorem RvR.imp (h : RvR K r ka x y P) (i : ∀ w k, P w k → P2 w k) : RvR K r ka x y P2 := fun B F0 ro ta sg H u v Q e h1 h2 q => h B F0 ro ta sg H u v Q e h1 h2 fun w k t H' p => q w k t H' (i w k p)
/-- a call whose end a word tells -/
theorem evr_call {Cc : Ct} {ws : List W} {out : Oc} (kr : Cells) (ha : EvA K tr ro ka ws (k1 ++ kr)) (hC : Cc ws k1 out) (ho : ∀ o k, out o k → ∃ d, o = .ret d) : EvR K (tCall (spC K Cc) [] E tr) ro ka (fun w k => ∃ d k2, out (.ret d) k2 ∧ w = .val d ∧ k = k2 ++ kr) := fun B F0 ta sg H Q e q =>
  ha B F0 ta sg H _ e fun vs H1 hl e1 => by
    rw [List.append_nil]
    exact sp_rel e1 hl hC ho fun d k2 v H' o e2 => q _ _ v H' ⟨d, k2, o, rfl, rfl⟩ e2
theorem EvR.op (h : EvR K te ro ka P) (h2 : ∀ w k, P w k → ∃ y k2, EvD K tf ro k y k2 ∧ RvR K r k2 w y P2) : EvR K (tOp r te tf) ro ka P2 := fun B F0 ta sg H Q e q =>
  h B F0 ta sg H _ e fun w k v H1 p e1 => by
    obtain ⟨y, k2, hb, hr⟩ := h2 w k p
    exact hb B F0 _ sg H1 _ e1 fun v2 H2 e2 => hr B F0 ro _ sg H2 v v2 Q e2 (List.mem_cons_of_mem _ List.mem_cons_self) List.mem_cons_self fun w3 k3 t H3 p3 e3 => q w3 k3 t H3 p3 (e3.held fun z hz => by
      rcases List.mem_cons.mp hz with rfl | hz
      · exact List.mem_cons_self
      · exact List.mem_cons_of_mem _ (List.mem_cons_of_mem _ (List.mem_cons_of_mem _ hz)))
theorem g_asgR {i : Nat} (h : EvR K te ro ka P) (k : ∀ w k1, P w k1 → Gp K B F0 ta De.nx (ro.set i (some w)) k1) : Gp K B F0 ta (tAsg te (gName i) De) ro ka := fun sg H e => h B F0 ta sg H _ e fun w k1 v H1 p e1 => k w k1 p _ _ (e1.set i)
theorem q_asgR {i : Nat} (h : EvR K te ro ka P) (k : ∀ w k1, P w k1 → Gp K B F0 ta (u De) (ro.set i (some w)) k1) : Gp K B F0 ta (tSeq (tAsg te (gName i)) u De) ro ka := g_asgR (De := { De with nx := u De }) h k

/-! ### methods, min -/
theorem evr_meth {Cc : Ct} {ws : List W} {out : Oc} {C : Addr} {m : Str} {fs : List (Str × D)} {b : Bool} (kr : Cells) (h : EvD K te ro ka w k1) (l : Io k1 w C fs b) (hm : fs.lookup m = none) (ha : EvA K tr ro k1 ws (k2 ++ kr)) (hC : Cc (w :: ws) k2 out) (ho : ∀ o k, out o k → ∃ d, o = .ret d) : EvR K (tMeth C m (spC K Cc) [] E te tr) ro ka (fun w' k => ∃ d k3, out (.ret d) k3 ∧ w' = .val d ∧ k = k3 ++ kr) := fun B F0 ta sg H Q e q =>
  h B F0 ta sg H _ e fun v H1 e1 => by
    obtain ⟨F, g, ef⟩ := id e1
    obtain ⟨a, dx, xs, rfl, ha1, rx⟩ := l.get ef (ef.tm _ List.mem_cons_self)
    refine ⟨a, dx, xs, rfl, ha1, rpf_none rx hm, ha B F0 _ sg H1 _ e1 fun vs H2 hl e2 => ?_⟩
    rw [List.append_nil]
    refine sp_rel (ws := w :: ws) (vs := .ref a :: vs) (kr := kr) (ta := ta) (e2.held fun p hp => ?_) (by rw [List.length_cons, List.length_cons, hl]) hC ho fun d k3 v3 H' o e3 => q _ _ v3 H' ⟨d, k3, o, rfl, rfl⟩ e3
    have hp' : p ∈ (V.ref a, w) :: (vs.zip ws ++ ta) := hp
    rcases List.mem_cons.mp hp' with rfl | hp
    · exact List.mem_append_right _ List.mem_cons_self
    · rcases List.mem_append.mp hp with hp | hp
      · exact List.mem_append_left _ hp
      · exact List.mem_append_right _ (List.mem_cons_of_mem _ hp)
theorem EvR.d (h : EvR K te ro ka P) (hP : ∀ w' k, P w' k → w' = w ∧ k = k1) : EvD K te ro ka w k1 := fun B F0 ta sg H Q e q => h B F0 ta sg H Q e fun w' k v H' p e' => by
  obtain ⟨rfl, rfl⟩ := hP w' k p
  exact q v H' e'
/-- a method that works on no cells -/
theorem ev_methP {Cc : Ct} {ws : List W} {C : Addr} {m : Str} {fs : List (Str × D)} {b : Bool} {d : D} (h : EvD K te ro ka w k1) (l : Io k1 w C fs b) (hm : fs.lookup m = none) (ha : EvA K tr ro k1 ws k2) (hC : Cc (w :: ws) [] (Rt d [])) : EvD K (tMeth C m (spC K Cc) [] E te tr) ro ka (.val d) k2 :=
  (evr_meth (k2 := []) k2 h l hm ha hC fun o k ho => ⟨d, ho.1⟩).d fun w' k ⟨d', k3, ho, e1, e2⟩ => by
    obtain ⟨h1, h2⟩ := ho
    cases h1
    exact ⟨e1, by rw [e2, h2]; rfl⟩
theorem inV_strs (s : Str) : ∀ ss : List Str, inV (.str s) (ss.map V.str) = decide (s ∈ ss)
  | [] => rfl
  | t :: ss => by
    show ((t == s) || inV (.str s) (ss.map V.str)) = _
    rw [inV_strs s ss, Bool.eq_iff_iff, Bool.or_eq_true, decide_eq_true_eq, decide_eq_true_eq, List.mem_cons, beq_iff_eq]
    exact ⟨fun h => h.elim (fun q => .inl q.symm) .inr, fun h => h.elim (fun q => .inl q.symm) .inr⟩
theorem all_flat : ∀ ss : List Str, (ss.map V.str).all flatV = true
  | [] => rfl
  | t :: ss => by
    rw [List.map_cons, List.all_cons, all_flat ss]
    rfl
theorem rv_inL {neg tt b : Bool} {s : Str} {ss : List Str} (l : Lk ka y tt (stD ss) b) : RvD K (rIn K neg) ka (.val (.str s)) y (.val (.bl (if neg then !decide (s ∈ ss) else decide (s ∈ ss)))) := fun B F0 ro ta sg H u v Q e h1 h2 q => by
  obtain ⟨F, g, ef⟩ := id e
  have hu := e.tm_str h1
  subst hu
  obtain ⟨a, xs, rfl, s1, r1⟩ := l.get ef (ef.tm _ h2)
  have ex := rpl_strs r1
  subst ex
  refine ⟨a, ss.map V.str, rfl, s1.sq, rfl, all_flat ss, ?_⟩
  rw [inV_strs]
  exact q _ _ (e.push_imm fun _ => rfl)
theorem ev_inL {tt b : Bool} {s : Str} {ss : List Str} (h : EvD K te ro ka (.val (.str s)) k1) (h2 : EvD K tf ro k1 y k2) (l : Lk k2 y tt (stD ss) b) : EvD K (tOp (rInU K) te tf) ro ka (.val (.bl (decide (s ∈ ss)))) k2 := ev_op h h2 (rvd_r (rv_inL (neg := false) l))
theorem ev_niL {tt b : Bool} {s : Str} {ss : List Str} (h : EvD K te ro ka (.val (.str s)) k1) (h2 : EvD K tf ro k1 y k2) (l : Lk k2 y tt (stD ss) b) : EvD K (tOp (rNiU K) te tf) ro ka (.val (.bl (!decide (s ∈ ss)))) k2 := ev_op h h2 (rvd_r (rv_inL (neg := true) l))
theorem ei_map {α : Type} {ts : List α} {f : α → D} (h : EvD K te ro ka (.val (.lst (ts.map f))) k1) : EvI K (iSeq K te) ro ka (ts.map fun t => W.val (f t)) (fun _ => True) k1 := by
  have := ei_seq h .vl
  have e : (ts.map f).map (part false) = ts.map fun t => W.val (f t) := by rw [List.map_map]; rfl
  rw [e] at this
  exact this
theorem ei_strs {ss : List Str} (h : EvD K te ro ka (.val (.lst (stD ss))) k1) : EvI K (iSeq K te) ro ka (ss.map fun s => W.val (.str s)) (fun _ => True) k1 := by
  have := ei_seq h .vl
  unfold stD at this
  rw [List.map_map] at this
  exact this

/-! ### targets -/
/-- the target g takes a value of w: the slots behind it -/
def AsT (K : PySem.W.Frag) (g : TG) (w : W) (ro ro' : Ro) : Prop := ∀ B F0 ka ta sg H v (Q : L2.St → Hp → Prop), En K B F0 ro ka ta sg H → (v, w) ∈ ta → (∀ sg', En K B F0 ro' ka ta sg' H → Q sg' H) → g v sg H Q
def AsL (K : PySem.W.Frag) (t : TGs) (ws : List W) (ro ro' : Ro) : Prop := ∀ B F0 ka ta sg H vs (Q : L2.St → Hp → Prop), En K B F0 ro ka ta sg H → vs.length = ws.length → (∀ p ∈ vs.zip ws, p ∈ ta) → (∀ sg', En K B F0 ro' ka ta sg' H → Q sg' H) → t vs sg H Q
variable {ro' ro2 : Ro} {g : TG} {t : TGs} {ws : List W}
theorem at_n {i : Nat} : AsT K (gName i) w ro (ro.set i (some w)) := fun B F0 ka ta sg H v Q ⟨F, g, e⟩ h q => q _ ⟨F, g, e.set (e.tm _ h) i⟩
theorem al_nil : AsL K gNil [] ro ro := fun B F0 ka ta sg H vs Q e hl h q => ⟨List.eq_nil_of_length_eq_zero hl, q _ e⟩
theorem al_cons (h1 : AsT K g w ro ro2) (h2 : AsL K t ws ro2 ro') : AsL K (gCons g t) (w :: ws) ro ro' := fun B F0 ka ta sg H vs Q e hl h q => by
  cases vs with
  | nil => cases hl
  | cons v r => exact ⟨v, r, rfl, h1 B F0 ka ta sg H v _ e (h _ List.mem_cons_self) fun sg1 e1 => h2 B F0 ka ta sg1 H r Q e1 (by simpa using hl) (fun p hp => h p (List.mem_cons_of_mem _ hp)) q⟩
theorem at_tup {ds : List D} {m : Nat} (hm : ds.length = m) (h : AsL K t (ds.map W.val) ro ro') : AsT K (gTup K m t) (.val (.tup ds)) ro ro' := fun B F0 ka ta sg H v Q e hv q => by
  obtain ⟨F, gr, ef⟩ := id e
  obtain ⟨a, xs, rfl, s1, r1⟩ := Lk.vt.get ef (ef.tm _ hv)
  refine ⟨a, xs, rfl, s1, by rw [rpl_len r1, hm], h B F0 ka (xs.zip (ds.map W.val) ++ ta) sg H xs Q ?_ (by rw [List.length_map, rpl_len r1]) (fun p hp => List.mem_append_left _ hp) fun sg' e' => q sg' (e'.held fun p hp => List.mem_append_right _ hp)⟩
  refine ⟨F, gr, ⟨ef.nz, ef.fz, ef.fr, ef.nd, ef.ce, ef.ln, ef.sl, fun p hp => ?_⟩⟩
  rcases List.mem_append.mp hp with hp | hp
  · have : ∀ (ds : List D) (xs : List V), RpL K F ds xs → ∀ p ∈ xs.zip (ds.map W.val), WOk K B F p.1 p.2 := by
      intro ds
      induction ds with
      | nil => intro xs h p hp; rw [show xs = [] from h] at hp; simp at hp
      | cons d ds ih =>
        intro xs h p hp
        obtain ⟨x, ys, rfl, h1, h2⟩ := h
        rcases List.mem_cons.mp hp with rfl | hp
        · exact h1
        · exact ih ys h2 p hp
    exact this ds xs r1 p hp
  · exact ef.tm p hp
theorem at_t2 {d1 d2 : D} {i j : Nat} : AsT K (gTup K 2 (gCons (gName i) (gCons (gName j) gNil))) (.val (.tup [d1, d2])) ro ((ro.set i (some (.val d1))).set j (some (.val d2))) := at_tup rfl (al_cons at_n (al_cons at_n al_nil))
theorem g_asgT (h : EvD K te ro ka w k1) (a : AsT K g w ro ro') (k : Gp K B F0 ta De.nx ro' k1) : Gp K B F0 ta (tAsg te g De) ro ka := fun sg H e => h B F0 ta sg H _ e fun v H1 e1 => a B F0 k1 _ sg H1 v _ e1 List.mem_cons_self fun sg' e' => k _ _ e'.pop
theorem q_asgT (h : EvD K te ro ka w k1) (a : AsT K g w ro ro') (k : Gp K B F0 ta (u De) ro' k1) : Gp K B F0 ta (tSeq (tAsg te g) u De) ro ka := g_asgT (De := { De with nx := u De }) h a k
/-- a loop whose target is of any form -/
theorem g_forT {wi : TI} {C : Cells → Prop} {tb : TS} (h : EvI K wi ro ka ws C k1) (Inv : Nat → Ro → Cells → Prop) (h0 : Inv 0 ro k1) (hC : ∀ i ro2 ka2, Inv i ro2 ka2 → C ka2)
    (hs : ∀ i w ro2 ka2 ta', ws[i]? = some w → Inv i ro2 ka2 → ∃ ro3, AsT K g w ro2 ro3 ∧ Gp K B F0 ta' (tb { De with nx := Jp K B F0 ta' (Inv (i + 1)), ct := Jp K B F0 ta' (Inv (i + 1)), bk := De.nx }) ro3 ka2)
    (hd : ∀ ro2 ka2 ta', Inv ws.length ro2 ka2 → (∀ p ∈ ta, p ∈ ta') → Gp K B F0 ta' De.nx ro2 ka2) : Gp K B F0 ta (tFor wi g tb De) ro ka :=
  g_for h Inv h0 hC (fun i w ro2 ka2 hw inv ta' sg H e x ex => by
    obtain ⟨ro3, a, gp⟩ := hs i w ro2 ka2 ta' hw inv
    exact a B F0 ka2 _ sg H x _ ex List.mem_cons_self fun sg' e' => gp _ _ e'.pop) hd
theorem q_forT {wi : TI} {C : Cells → Prop} {tb : TS} (h : EvI K wi ro ka ws C k1) (Inv : Nat → Ro → Cells → Prop) (h0 : Inv 0 ro k1) (hC : ∀ i ro2 ka2, Inv i ro2 ka2 → C ka2)
    (hs : ∀ i w ro2 ka2 ta', ws[i]? = some w → Inv i ro2 ka2 → ∃ ro3, AsT K g w ro2 ro3 ∧ Gp K B F0 ta' (tb { De with nx := Jp K B F0 ta' (Inv (i + 1)), ct := Jp K B F0 ta' (Inv (i + 1)), bk := u De }) ro3 ka2)
    (hd : ∀ ro2 ka2 ta', Inv ws.length ro2 ka2 → (∀ p ∈ ta, p ∈ ta') → Gp K B F0 ta' (u De) ro2 ka2) : Gp K B F0 ta (tSeq (tFor wi g tb) u De) ro ka := g_forT (De := { De with nx := u De }) h Inv h0 hC hs hd
end
end DL

/-! ER: a tuple read backwards (own work). -/
namespace DL
open PySem L2 PySem.W PyProof.Rows

section
variable {prog : Program} {w : World} {A : Around} {E : Value → Shared → Prop} {s : Shared}
end
section
variable {X : Cx} {e : Expr} {te : TE} {n : Nat} {pa pb pc pd : Pos}
end
end DL

/-! EA: dicts read and written, walked while frozen, objects frozen (own work). -/
namespace DL
open PySem L2 PySem.W

/-- w is a dict of ds; b: viewed -/
inductive Dk (ka : Cells) : W → List (Key × D) → Bool → Prop where
  | v {ds : List (Key × D)} : Dk ka (.val (.dic ds)) ds false
  | w {ds : List (Key × D)} : Dk ka (.vw (.dic ds)) ds true
  | ce {a : Addr} {ds : List (Key × D)} (j : Nat) (h : ka[j]? = some (a, .dic ds)) : Dk ka (.val (.adr a)) ds false
  | cl {a : Addr} {o : Obj} {xs : List (Key × V)} {ds : List (Key × D)} (j : Nat) (h : ka[j]? = some (a, .ldic o xs ds)) : Dk ka (.val (.adr a)) ds false
section
variable {K : PySem.W.Frag} {B B' F F' F0 : Hp} {ro ro' : Ro} {ka k1 k2 k3 kr : Cells} {ta : List (V × W)} {sg sg' : L2.St} {H H' : Hp} {te tf tg td ty tk tv : TE} {tr : TA} {tt tu : TT} {w x y z : W} {n m : Nd} {C dx a : Addr} {b : Bool} {P : L2.St → Hp → Prop} {De : Ends} {t u : TS} {E : XK} {ds : List (Key × D)}
theorem Dk.get {v : V} (l : Dk ka w ds b) (e : EnF K B F ro ka ta sg H) (h : WOk K B F v w) : ∃ a xs, v = .ref a ∧ Rd H a (.dK xs) ∧ RpK K (if b then uni B F else F) ds xs := by
  cases l with
  | v =>
    obtain ⟨a, xs, rfl, h1, h2⟩ := h
    exact ⟨a, xs, rfl, e.fz.rd e.nz h1, h2⟩
  | w =>
    obtain ⟨a, xs, rfl, h1, h2⟩ := h
    exact ⟨a, xs, rfl, (uni_exz e.fz e.fr).rd (uni_nz e.nz) h1, h2⟩
  | ce j hj =>
    obtain rfl : v = .ref _ := h
    obtain ⟨_, _, xs, h1, h2⟩ := e.ce _ (List.mem_of_getElem? hj)
    exact ⟨_, xs, rfl, .inl h1, h2⟩
  | cl j hj =>
    obtain rfl : v = .ref _ := h
    obtain ⟨_, _, h1, h2⟩ := e.ce _ (List.mem_of_getElem? hj)
    exact ⟨_, _, rfl, .inr ⟨_, h1⟩, h2⟩
theorem En.dk {v : V} (l : Dk ka w ds b) (e : En K B F0 ro ka ta sg H) (h : (v, w) ∈ ta) : ∃ F a xs, Gr B F0 F ∧ EnF K B F ro ka ta sg H ∧ v = .ref a ∧ Rd H a (.dK xs) ∧ RpK K (if b then uni B F else F) ds xs := by
  obtain ⟨F, g, ef⟩ := e
  obtain ⟨a, xs, h1, h2, h3⟩ := l.get ef (ef.tm _ h)
  exact ⟨F, a, xs, g, ef, h1, h2, h3⟩
theorem getV {xs : List (Key × V)} {k : Key} : valV xs k = getT xs k := rfl
/-- d[text] -/
theorem ev_dget {s : Str} {d : D} (h : EvD K td ro ka w k1) (h2 : EvD K ty ro k1 (.val (.str s)) k2) (l : Dk k2 w ds b) (hd : getT ds (.inr s) = some d) : EvD K (tDGet td ty) ro ka (part b d) k2 := fun B F0 ta sg H Q e q =>
  h B F0 ta sg H _ e fun u H1 e1 => h2 B F0 _ sg H1 _ e1 fun v H2 e2 => by
    have hv := e2.tm_str (v := v) (i := s) List.mem_cons_self
    subst hv
    obtain ⟨F, a, xs, g, ef, rfl, h3, h4⟩ := e2.dk l (List.mem_cons_of_mem _ List.mem_cons_self)
    obtain ⟨x, hx, rx⟩ := ((rpk_pt.mp h4).get (.inr s)).2 d hd
    refine ⟨a, x, rfl, .inl ⟨xs, .inr s, h3, rfl, ?_⟩, q _ _ ⟨F, g, ?_⟩⟩
    · rw [getV, hx]
    · exact (ef.held (ta' := ta) fun p hp => List.mem_cons_of_mem _ (List.mem_cons_of_mem _ hp)).push (wok_part b rx)
theorem ev_dgetV {s : Str} {d : D} (h : EvD K td ro ka w k1) (h2 : EvD K ty ro k1 (.val (.str s)) k2) (l : Dk k2 w ds false) (hd : getT ds (.inr s) = some d) : EvD K (tDGet td ty) ro ka (.val d) k2 := ev_dget h h2 l hd
/-- text in d -/
theorem ev_din {s : Str} (h : EvD K ty ro ka (.val (.str s)) k1) (h2 : EvD K td ro k1 w k2) (l : Dk k2 w ds b) : EvD K (tDIn ty td) ro ka (.val (.bl (getT ds (.inr s)).isSome)) k2 := fun B F0 ta sg H Q e q =>
  h B F0 ta sg H _ e fun u H1 e1 => h2 B F0 _ sg H1 _ e1 fun v H2 e2 => by
    have hv := e2.tm_str (v := u) (i := s) (List.mem_cons_of_mem _ List.mem_cons_self)
    subst hv
    obtain ⟨F, a, xs, g, ef, rfl, h3, h4⟩ := e2.dk l List.mem_cons_self
    have hg := (rpk_pt.mp h4).get (.inr s)
    refine ⟨a, getT xs (.inr s), rfl, .inl ⟨xs, .inr s, h3, rfl, rfl⟩, q _ _ ?_⟩
    have e5 := (e2.held (ta' := ta) fun p hp => List.mem_cons_of_mem _ (List.mem_cons_of_mem _ hp)).push_imm (v := .bl (getT xs (.inr s)).isSome) (w := .val (.bl (getT xs (.inr s)).isSome)) fun _ => rfl
    cases hd : getT ds (.inr s) with
    | none => rw [hg.1 hd] at e5 ⊢; exact e5
    | some d =>
      obtain ⟨x, hx, _⟩ := hg.2 d hd
      rw [hx] at e5 ⊢
      exact e5
/-- d[text] = v -/
theorem g_dput {s : Str} {d : D} {j : Nat} (hv : EvD K tv ro ka (.val d) k1) (ho : EvD K td ro k1 (.val (.adr a)) k2) (hi : EvD K ty ro k2 (.val (.str s)) k3) (hj : k3[j]? = some (a, .dic ds)) (hz : ds.length < 100000)
    (k : Gp K B F0 ta De.nx ro (k3.set j (a, .dic (putT ds (.inr s) d)))) : Gp K B F0 ta (sDPut td ty tv De) ro ka := fun sg H e =>
  hv B F0 ta sg H _ e fun v H1 e1 => ho B F0 _ sg H1 _ e1 fun u H2 e2 => hi B F0 _ sg H2 _ e2 fun y H3 e3 => by
    have hy := e3.tm_str (v := y) (i := s) List.mem_cons_self
    have hu := e3.tm_adr (v := u) (a := a) (List.mem_cons_of_mem _ List.mem_cons_self)
    subst hy hu
    obtain ⟨F, g, ef, xs, hx, rx⟩ := e3.cellAt hj
    have hvd := ef.tm (v, .val d) (List.mem_cons_of_mem _ (List.mem_cons_of_mem _ List.mem_cons_self))
    refine ⟨a, _, rfl, .inl ⟨xs, .inr s, hx, rfl, ?_, rfl⟩, k _ _ ⟨F, g, ?_⟩⟩
    · rw [(rpk_pt.mp rx).len]
      exact Nat.lt_of_lt_of_le hz (by decide : 100000 ≤ sizeLine)
    · exact (ef.write (o := .dK (putK xs (.inr s) v)) (n' := .dic (putT ds (.inr s) d)) hj ⟨_, upd_same, rpk_pt.mpr ((rpk_pt.mp rx).put (.inr s) hvd)⟩).held fun p hp => List.mem_cons_of_mem _ (List.mem_cons_of_mem _ (List.mem_cons_of_mem _ hp))
/-- {} -/
theorem evn_dnew : EvN K tDNewK ro ka (.dic []) ka := fun B F0 ta sg H Q e q => fun p hp => by
  obtain ⟨F, g, e⟩ := e
  exact q p _ ⟨F, g, e.cell (o := .dK []) hp (n := .dic []) ⟨[], upd_same, rfl⟩⟩
/-! ### a frozen dict is walked -/
/-- what stands at a path of fields stays the same while things are locked -/
def EvP (K : PySem.W.Frag) (te : TE) (ro : Ro) (w : W) : Prop := ∀ B F ka ta sg H, EnF K B F ro ka ta sg H → ∃ v, WOk K B F v w ∧ ∀ H' (Q : VK), (∀ a u, H a = some u → lk u = false → H' a = some u) → Q v H' → te sg H' Q
theorem evp_var {i : Nat} (h : ro[i]? = some (some w)) : EvP K (tVar i) ro w := fun B F ka ta sg H e => by
  obtain ⟨v, h1, h2⟩ := e.sl i w h
  exact ⟨v, h2, fun H' Q _ q => ⟨v, h1, q⟩⟩
theorem evp_fld {f : Str} {d : D} {fs : List (Str × D)} (h : EvP K te ro (.val (.ins C fs))) (c : Cls K C) (nf : NoAttr K C f) (hd : fs.lookup f = some d) : EvP K (tFld K te f) ro (.val d) := fun B F ka ta sg H e => by
  obtain ⟨v, h1, h2⟩ := h B F ka ta sg H e
  obtain ⟨a, dx, xs, rfl, h3, h4⟩ := h1
  obtain ⟨x, hx, rx⟩ := rpf_lookup h4 hd
  have h5 := rd_ins e.nz e.fz h3
  exact ⟨x, rx, fun H' Q hH q => h2 H' _ hH ⟨a, C, dx, xs, x, rfl, hH a _ h5 rfl, c, nf, hx, q⟩⟩
theorem uni_upd {o : Obj} {u : HO} (hl : lk u = true) (h : F a = some u ∨ B a = some u) : uni (upd B a (.frz o u)) F = uni B F := by
  funext c
  unfold uni
  cases q : F c with
  | some x => rfl
  | none =>
    by_cases hc : c = a
    · subst hc
      rw [upd_same]
      rcases h with h | h
      · rw [h] at q; cases q
      · rw [h]
        simp only [hl, if_true]
        cases u <;> first | rfl | cases hl
    · rw [upd_ne hc]
/-- a frozen thing is locked for a while -/
theorem EnF.lockF {o : Obj} {u : HO} (e : EnF K B F ro ka ta sg H) (hF : F a = some u) (hl : lk u = true) (hH : H a = some u ∨ H a = some (.frz o u)) : EnF K (upd B a (.frz o u)) F ro ka ta sg (upd H a (.frz o u)) := by
  have wk : ∀ {v : V} {w : W}, WOk K B F v w → WOk K (upd B a (.frz o u)) F v w := fun {v w} h => by
    cases w with
    | val d => exact h
    | vw d =>
      show Rp K (uni (upd B a (.frz o u)) F) d v
      rw [uni_upd hl (.inl hF)]
      exact h
  refine ⟨e.nz, fun c x h => ?_, fun c x h => ?_, e.nd, fun p hp => ?_, e.ln, fun i w h => ?_, fun p hp => wk (e.tm p hp)⟩
  · by_cases hc : c = a
    · subst hc
      rw [hF] at h
      cases h
      exact .inr ⟨hl, o, upd_same⟩
    · rcases e.fz c x h with q | ⟨q1, q2, q3⟩
      · exact .inl (by rw [upd_ne hc]; exact q)
      · exact .inr ⟨q1, q2, by rw [upd_ne hc]; exact q3⟩
  · by_cases hc : c = a
    · subst hc; rw [upd_same] at h ⊢; exact h
    · rw [upd_ne hc] at h ⊢; exact e.fr c x h
  · obtain ⟨h1, h2, h3⟩ := e.ce p hp
    have hc : p.1 ≠ a := fun z => by rw [z, hF] at h1; cases h1
    exact ⟨h1, by rw [upd_ne hc]; exact h2, ndok_at (upd_ne hc) h3⟩
  · obtain ⟨v, h1, h2⟩ := e.sl i w h
    exact ⟨v, h1, wk h2⟩
/-- .. and back: B stands as before -/
theorem EnF.unlockF {o : Obj} {u : HO} (e : EnF K (upd B a (.frz o u)) F ro ka ta sg H) (hF : F a = some u) (hl : lk u = true) {x : HO} (hx : x = u ∨ x = .frz o u) (hB : ∀ y, B a = some y → y = x) : EnF K B F ro ka ta sg (upd H a x) := by
  have wk : ∀ {v : V} {w : W}, WOk K (upd B a (.frz o u)) F v w → WOk K B F v w := fun {v w} h => by
    cases w with
    | val d => exact h
    | vw d =>
      have h' : Rp K (uni (upd B a (.frz o u)) F) d v := h
      rw [uni_upd hl (.inl hF)] at h'
      exact h'
  refine ⟨e.nz, fun c y h => ?_, fun c y h => ?_, e.nd, fun p hp => ?_, e.ln, fun i w h => ?_, fun p hp => wk (e.tm p hp)⟩
  · by_cases hc : c = a
    · subst hc
      rw [hF] at h
      cases h
      rcases hx with rfl | rfl
      · exact .inl upd_same
      · exact .inr ⟨hl, o, upd_same⟩
    · rcases e.fz c y h with q | ⟨q1, q2, q3⟩
      · exact .inl (by rw [upd_ne hc]; exact q)
      · exact .inr ⟨q1, q2, by rw [upd_ne hc]; exact q3⟩
  · by_cases hc : c = a
    · subst hc; rw [upd_same, hB y h]
    · rw [upd_ne hc]; exact e.fr c y (by rw [upd_ne hc]; exact h)
  · obtain ⟨h1, h2, h3⟩ := e.ce p hp
    have hc : p.1 ≠ a := fun z => by rw [z, hF] at h1; cases h1
    rw [upd_ne hc] at h2
    exact ⟨h1, h2, ndok_at (upd_ne hc) h3⟩
  · obtain ⟨v, h1, h2⟩ := e.sl i w h
    exact ⟨v, h1, wk h2⟩
end
end DL

/-! EB: loops and comprehensions over frozen dicts (own work). -/
namespace DL
open PySem L2 PySem.W
def tLkE (t : TE) : TE := fun σ H Q => t σ H Q ∨ tLockE t σ H Q
theorem pe_lkE {X : Cx} {e : Expr} {t : TE} (h : PE X e t) : PE X e (tLkE t) := ⟨fun pins s σ H Q I q => q.elim (h.run pins s σ H Q I) ((pe_lock h).run pins s σ H Q I)⟩
/-- what is walked, at one state -/
def EvIat (K : PySem.W.Frag) (B F0 : Hp) (wi : TI) (ro : Ro) (ws : List W) (C : Cells → Prop) (ka' : Cells) (ta : List (V × W)) (sg : L2.St) (H : Hp) : Prop := ∀ (R : It → Hp → Prop),
  (∀ J ta' H', (∀ p ∈ ta, p ∈ ta') → En K B F0 ro ka' ta' sg H' →
    (∀ i w ro2 ka2 ta2 sg2 H2, ws[i]? = some w → C ka2 → (∀ p ∈ ta', p ∈ ta2) → En K B F0 ro2 ka2 ta2 sg2 H2 → J.go i H2 ∧ ∀ x H3, J.yld i H2 x H3 → En K B F0 ro2 ka2 ((x, w) :: ta2) sg2 H3) →
    (∀ i ro2 ka2 ta2 sg2 H2, ws.length ≤ i → C ka2 → (∀ p ∈ ta', p ∈ ta2) → En K B F0 ro2 ka2 ta2 sg2 H2 → J.stop i H2) → R J H') → wi sg H R
section
variable {K : PySem.W.Frag} {B F F0 : Hp} {ro : Ro} {ka k1 k2 k3 kr : Cells} {ta : List (V × W)} {sg : L2.St} {H H' : Hp} {te tf tg tk tv : TE} {tr : TA} {tt tu : TT} {w x y z : W} {n m : Nd} {C dx a : Addr} {b : Bool} {P : L2.St → Hp → Prop} {De : Ends} {t u : TS} {E : XK}
theorem lc_at {wi : TI} {ws : List W} {C : Cells → Prop} {j : Nat} {vs : List Nat} {Q : VK} (e : En K B F0 ro ka ta sg H) (h : EvIat K B F0 wi ro ws C k1 ta sg H) (hj : j ∈ vs) (hn : ws.length ≤ 1000000) (Inv : Nat → List D → Cells → Prop) (h0 : Inv 0 [] k1) (hC : ∀ i acc k, Inv i acc k → C k ∧ ∀ x, C (k ++ [x]))
    (hs : ∀ i w acc k, ws[i]? = some w → Inv i acc k → (∃ k2, EvT K tt ((wipeR ro vs).set j (some w)) k false k2 ∧ Inv (i + 1) acc k2) ∨ ∃ k2 k3 d, EvT K tt ((wipeR ro vs).set j (some w)) k true k2 ∧ EvD K te ((wipeR ro vs).set j (some w)) k2 (.val d) k3 ∧ Inv (i + 1) (acc ++ [d]) k3)
    (q : ∀ n k a H', (∃ acc, n = .lst acc ∧ Inv ws.length acc k) → En K B F0 ro (k ++ [(a, n)]) ta sg H' → Q (.ref a) H') : tLc wi (gName j) tt te vs sg H Q :=
  h _ fun J ta' H1 hta e1 hgo hst => fun Dl hD => by
    -- the word: the list so far is the last cell
    let P : Nat → Hp → Prop := fun i H => ∃ acc k, Inv i acc k ∧ acc.length ≤ i ∧ En K B F0 ro (k ++ [(Dl, .lst acc)]) ta' sg H
    have p0 : P 0 (upd H1 Dl (.lst [])) := by
      obtain ⟨F, g, e1⟩ := e1
      exact ⟨[], k1, h0, Nat.le_refl _, F, g, e1.cell (o := .lst []) hD (n := .lst []) ⟨[], upd_same, rfl⟩⟩
    refine ⟨fun i m H => m = ws.length - i ∧ i ≤ ws.length ∧ P i H, ⟨ws.length, by simp, Nat.zero_le _, p0⟩, ?_⟩
    rintro i m H2 ⟨rfl, hi, acc, k, inv, hlen, e2⟩
    by_cases hlt : i < ws.length
    · have hw := List.getElem?_eq_getElem hlt
      obtain ⟨g1, g2⟩ := hgo i ws[i] ro (k ++ [(Dl, .lst acc)]) ta' sg H2 hw ((hC i acc k inv).2 _) (fun p hp => hp) e2
      refine .inr ⟨g1, P (i + 1), fun H' p => ⟨ws.length - (i + 1), by omega, rfl, hlt, p⟩, fun x H3 y => ?_⟩
      have e3 := g2 x H3 y
      refine ⟨wipe_set sg vs hj x, ?_⟩
      -- within the block
      have e4 : En K B F0 ((wipeR ro vs).set j (some ws[i])) (k ++ [(Dl, .lst acc)]) ta' ((wipe sg vs).set j (some x)) H3 := by
        obtain ⟨F, g, e3⟩ := e3
        exact ⟨F, g, ((wipe_en (vs := vs) e3).set (e3.tm _ List.mem_cons_self) j).held fun p hp => List.mem_cons_of_mem _ hp⟩
      -- and back out of it
      have out : ∀ {k : Cells} {ta2 : List (V × W)} {H : Hp}, (∃ F, Gr B F0 F ∧ EnF K B F ((wipeR ro vs).set j (some ws[i])) k ta2 ((wipe sg vs).set j (some x)) H ∧ ∀ (a : Nat) w, ro[a]? = some (some w) → ∃ v, sg[a]? = some (some v) ∧ WOk K B F v w) → En K B F0 ro k ta2 sg H := fun ⟨F, g, q, hs⟩ => ⟨F, g, q.frame (by obtain ⟨_, _, e0⟩ := e; exact e0.ln) hs⟩
      obtain ⟨F3, gF3, eF3⟩ := e3
      have slots : ∀ {F : Hp}, Gr B F3 F → ∀ (a : Nat) w, ro[a]? = some (some w) → ∃ v, sg[a]? = some (some v) ∧ WOk K B F v w := fun {F} g a w ha => by
        obtain ⟨v, h1, h2⟩ := eF3.sl a w ha
        exact ⟨v, h1, wok_gr eF3.nz g h2⟩
      have e4' : En K B F3 ((wipeR ro vs).set j (some ws[i])) (k ++ [(Dl, .lst acc)]) ta' ((wipe sg vs).set j (some x)) H3 :=
        ⟨F3, Gr.refl _ _, ((wipe_en (vs := vs) eF3).set (eF3.tm _ List.mem_cons_self) j).held fun p hp => List.mem_cons_of_mem _ hp⟩
      rcases hs i ws[i] acc k hw inv with ⟨k2, t1, inv2⟩ | ⟨k2, k3, d, t1, t2, inv2⟩
      · refine t1.fr [(Dl, .lst acc)] B F3 ta' _ H3 _ e4' fun H4 ⟨F4, g4, e5⟩ => ?_
        exact ⟨acc, k2, inv2, Nat.le_succ_of_le hlen, out ⟨F4, gF3.trans g4, e5, slots g4⟩⟩
      · refine t1.fr [(Dl, .lst acc)] B F3 ta' _ H3 _ e4' fun H4 e5 => ?_
        refine t2.fr [(Dl, .lst acc)] B F3 ta' _ H4 _ e5 fun v H5 ⟨F5, g5, e6⟩ => ?_
        have hx : (k3 ++ [(Dl, Nd.lst acc)])[k3.length]? = some (Dl, Nd.lst acc) := by simp
        obtain ⟨xs, h1, h2⟩ := e6.rd_lst hx
        have hv := e6.tm _ List.mem_cons_self
        have e7 := e6.write (o := .lst (xs ++ [v])) (n' := .lst (acc ++ [d])) hx ⟨_, upd_same, rpl_app h2 ⟨v, [], rfl, hv, rfl⟩⟩
        have hset : (k3 ++ [(Dl, Nd.lst acc)]).set k3.length (Dl, Nd.lst (acc ++ [d])) = k3 ++ [(Dl, Nd.lst (acc ++ [d]))] := by
          rw [List.set_append_right _ _ (Nat.le_refl _)]
          simp
        rw [hset] at e7
        refine ⟨xs, h1, by rw [rpl_len h2]; exact Nat.lt_of_le_of_lt (Nat.le_trans hlen (Nat.le_trans hi hn)) (by decide), acc ++ [d], k3, inv2, by rw [List.length_append]; exact Nat.succ_le_succ hlen, ?_⟩
        exact out ⟨F5, gF3.trans g5, e7.held fun p hp => List.mem_cons_of_mem _ hp, slots g5⟩
    · have ei : i = ws.length := by omega
      subst ei
      refine .inl ⟨hst _ ro (k ++ [(Dl, .lst acc)]) ta' sg H2 (Nat.le_refl _) ((hC _ acc k inv).2 _) (fun p hp => hp) e2, ?_⟩
      exact q _ _ Dl H2 ⟨acc, rfl, inv⟩ (e2.held hta)
theorem dc_at {wi : TI} {ws : List W} {C : Cells → Prop} {j : Nat} {vs : List Nat} {Q : VK} (e : En K B F0 ro ka ta sg H) (h : EvIat K B F0 wi ro ws C k1 ta sg H) (hj : j ∈ vs) (hn : ws.length ≤ 1000000) (Inv : Nat → List (Key × D) → Cells → Prop) (h0 : Inv 0 [] k1) (hC : ∀ i acc k, Inv i acc k → C k ∧ ∀ x, C (k ++ [x]))
    (hs : ∀ i w acc k, ws[i]? = some w → Inv i acc k → (∃ k2, EvT K tt ((wipeR ro vs).set j (some w)) k false k2 ∧ Inv (i + 1) acc k2) ∨ ∃ k2 k3 k4 c d, EvT K tt ((wipeR ro vs).set j (some w)) k true k2 ∧ EvD K tk ((wipeR ro vs).set j (some w)) k2 (.val (kD c)) k3 ∧ EvD K tv ((wipeR ro vs).set j (some w)) k3 (.val d) k4 ∧ Inv (i + 1) (putT acc c d) k4)
    (q : ∀ n k a H', (∃ acc, n = .dic acc ∧ Inv ws.length acc k) → En K B F0 ro (k ++ [(a, n)]) ta sg H' → Q (.ref a) H') : tDc wi (gName j) tt tk tv vs sg H Q :=
  h _ fun J ta' H1 hta e1 hgo hst => fun Dl hD => by
    let P : Nat → Hp → Prop := fun i H => ∃ acc k, Inv i acc k ∧ acc.length ≤ i ∧ En K B F0 ro (k ++ [(Dl, .dic acc)]) ta' sg H
    have p0 : P 0 (upd H1 Dl (.dK [])) := by
      obtain ⟨F, g, e1⟩ := e1
      exact ⟨[], k1, h0, Nat.le_refl _, F, g, e1.cell (o := .dK []) hD (n := .dic []) ⟨[], upd_same, rfl⟩⟩
    refine ⟨fun i m H => m = ws.length - i ∧ i ≤ ws.length ∧ P i H, ⟨ws.length, by simp, Nat.zero_le _, p0⟩, ?_⟩
    rintro i m H2 ⟨rfl, hi, acc, k, inv, hlen, e2⟩
    by_cases hlt : i < ws.length
    · have hw := List.getElem?_eq_getElem hlt
      obtain ⟨g1, g2⟩ := hgo i ws[i] ro (k ++ [(Dl, .dic acc)]) ta' sg H2 hw ((hC i acc k inv).2 _) (fun p hp => hp) e2
      refine .inr ⟨g1, P (i + 1), fun H' p => ⟨ws.length - (i + 1), by omega, rfl, hlt, p⟩, fun x H3 y => ?_⟩
      have e3 := g2 x H3 y
      refine ⟨wipe_set sg vs hj x, ?_⟩
      have out : ∀ {k : Cells} {ta2 : List (V × W)} {H : Hp}, (∃ F, Gr B F0 F ∧ EnF K B F ((wipeR ro vs).set j (some ws[i])) k ta2 ((wipe sg vs).set j (some x)) H ∧ ∀ (a : Nat) w, ro[a]? = some (some w) → ∃ v, sg[a]? = some (some v) ∧ WOk K B F v w) → En K B F0 ro k ta2 sg H := fun ⟨F, g, q, hs⟩ => ⟨F, g, q.frame (by obtain ⟨_, _, e0⟩ := e; exact e0.ln) hs⟩
      obtain ⟨F3, gF3, eF3⟩ := e3
      have slots : ∀ {F : Hp}, Gr B F3 F → ∀ (a : Nat) w, ro[a]? = some (some w) → ∃ v, sg[a]? = some (some v) ∧ WOk K B F v w := fun {F} g a w ha => by
        obtain ⟨v, h1, h2⟩ := eF3.sl a w ha
        exact ⟨v, h1, wok_gr eF3.nz g h2⟩
      have e4' : En K B F3 ((wipeR ro vs).set j (some ws[i])) (k ++ [(Dl, .dic acc)]) ta' ((wipe sg vs).set j (some x)) H3 :=
        ⟨F3, Gr.refl _ _, ((wipe_en (vs := vs) eF3).set (eF3.tm _ List.mem_cons_self) j).held fun p hp => List.mem_cons_of_mem _ hp⟩
      rcases hs i ws[i] acc k hw inv with ⟨k2, t1, inv2⟩ | ⟨k2, k3, k4, c, d, t1, t2, t3, inv2⟩
      · refine t1.fr [(Dl, .dic acc)] B F3 ta' _ H3 _ e4' fun H4 ⟨F4, g4, e5⟩ => ?_
        exact ⟨acc, k2, inv2, Nat.le_succ_of_le hlen, out ⟨F4, gF3.trans g4, e5, slots g4⟩⟩
      · refine t1.fr [(Dl, .dic acc)] B F3 ta' _ H3 _ e4' fun H4 e5 => ?_
        refine t2.fr [(Dl, .dic acc)] B F3 ta' _ H4 _ e5 fun u H5 e6 => ?_
        have hu := e6.tm_key (v := u) (k := c) List.mem_cons_self
        refine t3.fr [(Dl, .dic acc)] B F3 _ _ H5 _ e6 fun v H6 ⟨F5, g5, e7⟩ => ?_
        have hx : (k4 ++ [(Dl, Nd.dic acc)])[k4.length]? = some (Dl, Nd.dic acc) := by simp
        obtain ⟨xs, h1, h2⟩ := (e7.ce _ (List.mem_of_getElem? hx)).2.2
        have hv := e7.tm _ List.mem_cons_self
        have e8 := e7.write (o := .dK (putK xs c v)) (n' := .dic (putT acc c d)) hx ⟨_, upd_same, rpk_pt.mpr ((rpk_pt.mp h2).put c hv)⟩
        have hset : (k4 ++ [(Dl, Nd.dic acc)]).set k4.length (Dl, Nd.dic (putT acc c d)) = k4 ++ [(Dl, Nd.dic (putT acc c d))] := by
          rw [List.set_append_right _ _ (Nat.le_refl _)]
          simp
        rw [hset] at e8
        refine ⟨xs, c, hu, h1, by rw [(rpk_pt.mp h2).len]; exact Nat.lt_of_le_of_lt (Nat.le_trans hlen (Nat.le_trans hi hn)) (by decide), putT acc c d, k4, inv2, Nat.le_trans (putT_len _ _ _) (Nat.succ_le_succ hlen), ?_⟩
        exact out ⟨F5, gF3.trans g5, e8.held fun p hp => List.mem_cons_of_mem _ (List.mem_cons_of_mem _ hp), slots g5⟩
    · have ei : i = ws.length := by omega
      subst ei
      refine .inl ⟨hst _ ro (k ++ [(Dl, .dic acc)]) ta' sg H2 (Nat.le_refl _) ((hC _ acc k inv).2 _) (fun p hp => hp) e2, ?_⟩
      exact q _ _ Dl H2 ⟨acc, rfl, inv⟩ (e2.held hta)


theorem keys_of {ds : List (Key × D)} {xs : List (Key × V)} (h : RpK K F ds xs) : xs.map (·.1) = ds.map (·.1) := by
  induction ds generalizing xs with
  | nil => rw [show xs = [] from h]; rfl
  | cons p ds ih =>
    obtain ⟨k, d⟩ := p
    obtain ⟨x, ys, rfl, _, h2⟩ := h
    rw [List.map_cons, List.map_cons, ih h2]
/-- the keys of a locked dict, at one state -/
theorem ei_at {ds : List (Key × D)} {o : Obj} {xs : List (Key × V)} (e : En K B F0 ro ka ta sg H) (hB : B a = some (.frz o (.dK xs))) (hk : xs.map (·.1) = ds.map (·.1)) (hte : ∀ Q : VK, Q (.ref a) H → te sg H Q) :
    EvIat K B F0 (iKeys te) ro (ds.map fun kv => W.val (kD kv.1)) (fun _ => True) ka ta sg H := fun R q => hte _ ⟨a, o, rfl, .inl ⟨xs, (let ⟨_, _, ef⟩ := e; ef.fr _ _ hB), q _ ta H (fun p hp => hp) e (fun i w2 ro2 ka2 ta2 sg2 H2 hw _ _ e2 => by
    have hl : H2 a = some (.frz o (.dK xs)) := let ⟨_, _, ef⟩ := e2; ef.fr _ _ hB
    rw [List.getElem?_map] at hw
    obtain ⟨p, hp, rfl⟩ := Option.map_eq_some_iff.mp hw
    have h1 : (xs.map (·.1))[i]? = some p.1 := by rw [hk, List.getElem?_map, hp]; rfl
    rw [List.getElem?_map] at h1
    obtain ⟨y, hy, hy2⟩ := Option.map_eq_some_iff.mp h1
    refine ⟨⟨hl, (List.getElem?_eq_some_iff.mp hy).1⟩, fun x H3 ⟨e3, k, v, h2, h3⟩ => ?_⟩
    subst e3 h3
    rw [hy] at h2
    cases h2
    obtain ⟨pk, pd⟩ := p
    cases hy2
    exact e2.push_imm fun F => by cases k <;> rfl) fun i ro2 ka2 ta2 sg2 H2 hi _ _ e2 => by
    have hl : H2 a = some (.frz o (.dK xs)) := let ⟨_, _, ef⟩ := e2; ef.fr _ _ hB
    refine ⟨hl, ?_⟩
    have : xs.length = ds.length := by have := congrArg List.length hk; rwa [List.length_map, List.length_map] at this
    rw [this]
    rwa [List.length_map] at hi⟩⟩
theorem Gr.unB {B' F' : Hp} (h : Gr B' F F') (hs : ∀ c, B c ≠ none → B' c ≠ none) : Gr B F F' := ⟨h.sub, fun c h1 h2 => h.off c h1 (hs c h2)⟩
theorem upd_id {o : HO} (h : H a = some o) : upd H a o = H := by
  funext c
  unfold upd
  split
  · rename_i q; rw [q, h]
  · rfl
/-- a frozen dict is locked: what holds then, and the way back -/
theorem En.lockD {ds : List (Key × D)} (e : En K B F0 ro ka ta sg H) (hp : EvP K te ro (.val (.dic ds))) : ∃ (F : Hp) (a : Addr) (xs : List (Key × V)), Gr B F0 F ∧ F a = some (.dK xs) ∧ xs.map (·.1) = ds.map (·.1) ∧
    (H a = some (.dK xs) ∨ ∃ o, H a = some (.frz o (.dK xs))) ∧ (∀ y, B a = some y → H a = some y) ∧
    (∀ o, (∀ o', H a = some (.frz o' (.dK xs)) → o' = o) → En K (upd B a (.frz o (.dK xs))) F ro ka ta sg (upd H a (.frz o (.dK xs))) ∧ ∀ Q : VK, Q (.ref a) (upd H a (.frz o (.dK xs))) → te sg (upd H a (.frz o (.dK xs))) Q) := by
  obtain ⟨F, g, ef⟩ := e
  obtain ⟨v, h1, h2⟩ := hp B F ka ta sg H ef
  obtain ⟨a, xs, rfl, h3, h4⟩ := h1
  have hF : F a = some (.dK xs) := by
    rcases h3 with h3 | ⟨o, h3⟩
    · exact h3
    · have := ef.nz a _ h3; cases this
  have hH : H a = some (.dK xs) ∨ ∃ o, H a = some (.frz o (.dK xs)) := (ef.fz a _ hF).imp id fun z => z.2
  refine ⟨F, a, xs, g, hF, keys_of h4, hH, fun y hy => ef.fr _ _ hy, fun o ho => ?_⟩
  have hH2 : H a = some (.dK xs) ∨ H a = some (.frz o (.dK xs)) := hH.imp id fun ⟨o', z⟩ => by rw [← ho o' z]; exact z
  refine ⟨⟨F, Gr.refl _ _, ef.lockF hF rfl hH2⟩, fun Q q => h2 _ Q (fun c u hc hl => ?_) q⟩
  by_cases e : c = a
  · subst e
    rcases hH2 with z | z
    · rw [z] at hc; cases hc; cases hl
    · rw [z] at hc; cases hc; exact upd_same
  · rw [upd_ne e]; exact hc
theorem En.unlockD {o : Obj} {xs : List (Key × V)} {y : HO} (e : En K (upd B a (.frz o (.dK xs))) F ro ka ta sg H) (g : Gr B F0 F) (hF : F a = some (.dK xs)) (hx : y = .dK xs ∨ y = .frz o (.dK xs)) (hB : ∀ z, B a = some z → z = y) : En K B F0 ro ka ta sg (upd H a y) := by
  obtain ⟨F2, g2, ef⟩ := e
  have g3 : Gr B F F2 := Gr.unB g2 fun c hc => by
    by_cases e : c = a
    · subst e; rw [upd_same]; exact fun z => by cases z
    · rw [upd_ne e]; exact hc
  exact ⟨F2, g.trans g3, ef.unlockF (g2.sub _ _ hF) rfl hx hB⟩
/-- what is made while a frozen dict is locked -/
theorem lkE_of {ds : List (Key × D)} {Q : VK} {t2 : TE} {R : Nd → Cells → Prop} (e : En K B F0 ro ka ta sg H) (hp : EvP K te ro (.val (.dic ds)))
    (h : ∀ (B' F1 H1 : Hp) (Q' : VK), En K B' F1 ro ka ta sg H1 → EvIat K B' F1 (iKeys te) ro (ds.map fun kv => W.val (kD kv.1)) (fun _ => True) ka ta sg H1 →
      (∀ n k a H', R n k → En K B' F1 ro (k ++ [(a, n)]) ta sg H' → Q' (.ref a) H') → t2 sg H1 Q')
    (q : ∀ n k a H', R n k → En K B F0 ro (k ++ [(a, n)]) ta sg H' → Q (.ref a) H') : tLkE t2 sg H Q := by
  obtain ⟨F, a, xs, gr, hF, hk, hH, hBH, lock⟩ := e.lockD hp
  rcases hH with hH | ⟨o, hH⟩
  · refine .inr ⟨a, .dK xs, hH, trivial, fun o => ?_⟩
    obtain ⟨e1, hte⟩ := lock o fun o' z => by rw [hH] at z; cases z
    refine h _ F _ _ e1 (ei_at (ds := ds) e1 upd_same hk hte) fun n k a' H' r e2 => ?_
    exact ⟨let ⟨_, _, ef⟩ := e2; ef.fr _ _ upd_same, q n k a' _ r (e2.unlockD gr hF (.inl rfl) fun z hz => by have := hBH z hz; rw [hH] at this; cases this; rfl)⟩
  · obtain ⟨e1, hte⟩ := lock o fun o' z => by rw [hH] at z; cases z; rfl
    refine .inl ?_
    have := h _ F _ Q e1 (ei_at (ds := ds) e1 upd_same hk hte) fun n k a' H' r e2 => by
      have e3 := e2.unlockD gr hF (.inr rfl) fun z hz => by have := hBH z hz; rw [hH] at this; cases this; rfl
      have at_ : H' a = some (.frz o (.dK xs)) := let ⟨_, _, ef⟩ := e2; ef.fr _ _ upd_same
      rw [upd_id at_] at e3
      exact q n k a' H' r e3
    rwa [upd_id hH] at this
/-- [e for k in d if ..], d frozen -/
theorem evr_lcK {ds : List (Key × D)} {j : Nat} {vs : List Nat} (hp : EvP K tg ro (.val (.dic ds))) (hj : j ∈ vs) (hn : ds.length ≤ 1000000) (Inv : Nat → List D → Cells → Prop) (h0 : Inv 0 [] ka)
    (hs : ∀ (i : Nat) (kv : Key × D) acc k, ds[i]? = some kv → Inv i acc k → (∃ k2, EvT K tt ((wipeR ro vs).set j (some (.val (kD kv.1)))) k false k2 ∧ Inv (i + 1) acc k2) ∨ ∃ k2 k3 d, EvT K tt ((wipeR ro vs).set j (some (.val (kD kv.1)))) k true k2 ∧ EvD K te ((wipeR ro vs).set j (some (.val (kD kv.1)))) k2 (.val d) k3 ∧ Inv (i + 1) (acc ++ [d]) k3)
    : EvNR K (tLkE (tLc (iKeys tg) (gName j) tt te vs)) ro ka (fun n k => ∃ acc, n = .lst acc ∧ Inv ds.length acc k) := fun B F0 ta sg H Q e q =>
  lkE_of (R := fun n k => ∃ acc, n = .lst acc ∧ Inv ds.length acc k) e hp (fun B' F1 H1 Q' e1 it q' => lc_at e1 it hj (by rw [List.length_map]; exact hn) Inv h0 (fun _ _ _ _ => ⟨trivial, fun _ => trivial⟩) (fun i w acc k hw inv => by
    rw [List.getElem?_map] at hw
    obtain ⟨kv, hkv, rfl⟩ := Option.map_eq_some_iff.mp hw
    exact hs i kv acc k hkv inv) fun n k a H' r e2 => q' n k a H' (by rw [List.length_map] at r; exact r) e2) q
/-- {k: v for x in d if ..}, d frozen -/
theorem evr_dcK {ds : List (Key × D)} {j : Nat} {vs : List Nat} (hp : EvP K tg ro (.val (.dic ds))) (hj : j ∈ vs) (hn : ds.length ≤ 1000000) (Inv : Nat → List (Key × D) → Cells → Prop) (h0 : Inv 0 [] ka)
    (hs : ∀ (i : Nat) (kv : Key × D) acc k, ds[i]? = some kv → Inv i acc k → (∃ k2, EvT K tt ((wipeR ro vs).set j (some (.val (kD kv.1)))) k false k2 ∧ Inv (i + 1) acc k2) ∨ ∃ k2 k3 k4 c d, EvT K tt ((wipeR ro vs).set j (some (.val (kD kv.1)))) k true k2 ∧ EvD K tk ((wipeR ro vs).set j (some (.val (kD kv.1)))) k2 (.val (kD c)) k3 ∧ EvD K tv ((wipeR ro vs).set j (some (.val (kD kv.1)))) k3 (.val d) k4 ∧ Inv (i + 1) (putT acc c d) k4)
    : EvNR K (tLkE (tDc (iKeys tg) (gName j) tt tk tv vs)) ro ka (fun n k => ∃ acc, n = .dic acc ∧ Inv ds.length acc k) := fun B F0 ta sg H Q e q =>
  lkE_of (R := fun n k => ∃ acc, n = .dic acc ∧ Inv ds.length acc k) e hp (fun B' F1 H1 Q' e1 it q' => dc_at e1 it hj (by rw [List.length_map]; exact hn) Inv h0 (fun _ _ _ _ => ⟨trivial, fun _ => trivial⟩) (fun i w acc k hw inv => by
    rw [List.getElem?_map] at hw
    obtain ⟨kv, hkv, rfl⟩ := Option.map_eq_some_iff.mp hw
    exact hs i kv acc k hkv inv) fun n k a H' r e2 => q' n k a H' (by rw [List.length_map] at r; exact r) e2) q
end
end DL

/-! EC: defaults, objects with cells in their fields, more of dicts (own work). -/
namespace DL
open PySem L2 PySem.W

/-! ### defaults -/
/-- the def at f keeps C, its defaults written out; dvs: its defaults -/
def FnD (P : Program) (w : World) (K : PySem.W.Frag) (mg : Str → Option Value) (base : Heap) (k : Nat) (f : Addr) (ps : List Str) (dvs : List V) (C : Ct) : Prop :=
  ∃ fd, FnOk P w K mg base (L2.CX P w) k f fd ps (spC K C) ∧ ∃ ds, Vals dvs ds ∧ Binds K fd ps ds
section
variable {P : Program} {w : World} {K : PySem.W.Frag} {mg : Str → Option Value} {base : Heap} {k j : Nat} {f : Addr} {ps : List Str} {dvs : List V} {C : Ct}
noncomputable def FnD.fd (F : FnD P w K mg base k f ps dvs C) : FuncData := Classical.choose F
theorem FnD.ok (F : FnD P w K mg base k f ps dvs C) : FnOk P w K mg base (L2.CX P w) k f F.fd ps (spC K C) := (Classical.choose_spec F).1
noncomputable def FnD.ds (F : FnD P w K mg base k f ps dvs C) : List Value := Classical.choose (Classical.choose_spec F).2
theorem FnD.dv (F : FnD P w K mg base k f ps dvs C) : Vals dvs F.ds := (Classical.choose_spec (Classical.choose_spec F).2).1
theorem FnD.bn (F : FnD P w K mg base k f ps dvs C) : Binds K F.fd ps F.ds := (Classical.choose_spec (Classical.choose_spec F).2).2
theorem FnD.up (F : FnD P w K mg base j f ps dvs C) (h : j ≤ k) : FnD P w K mg base k f ps dvs C := let ⟨fd, a, b⟩ := F; ⟨fd, a.mono h, b⟩
end
/-- what stands for the defaults -/
def DvOk (K : PySem.W.Frag) (dvs : List V) (wd : List W) : Prop := dvs.length = wd.length ∧ ∀ B F p, p ∈ dvs.zip wd → WOk K B F p.1 p.2
theorem dv_nil {K : PySem.W.Frag} : DvOk K [] [] := ⟨rfl, fun _ _ _ h => by cases h⟩
theorem dv_cons {K : PySem.W.Frag} {v : V} {w : W} {dvs : List V} {wd : List W} (h : ∀ B F, WOk K B F v w) (r : DvOk K dvs wd) : DvOk K (v :: dvs) (w :: wd) := ⟨by rw [List.length_cons, List.length_cons, r.1], fun B F p hp => by
  rcases List.mem_cons.mp hp with rfl | hp
  · exact h B F
  · exact r.2 B F p hp⟩
section
variable {K : PySem.W.Frag} {B B' F F' F0 : Hp} {ro ro' : Ro} {ka k1 k2 k3 kr : Cells} {ta : List (V × W)} {sg sg' : L2.St} {H H' : Hp} {te tf tg td ty tk tv : TE} {tr : TA} {tt tu : TT} {w x y z : W} {n m : Nd} {C dx a o d : Addr} {b : Bool} {P : W → Cells → Prop} {De : Ends} {u : TS}
theorem En.more (e : En K B F0 ro ka ta sg H) {dvs : List V} {wd : List W} (h : DvOk K dvs wd) : En K B F0 ro ka (dvs.zip wd ++ ta) sg H := by
  obtain ⟨F, g, e⟩ := e
  refine ⟨F, g, { e with tm := fun p hp => ?_ }⟩
  rcases List.mem_append.mp hp with q | q
  · exact h.2 B F p q
  · exact e.tm p q
/-- C(e, ..), told by a word: __init__ may make more cells -/
theorem evr_make {Cc : Ct} {ws wd : List W} {dvs : List V} {E : XK} (ha : EvA K tr ro ka ws k1) (hd : DvOk K dvs wd)
    (hC : ∀ a, ∃ out, Cc (.val (.adr a) :: (ws ++ wd)) (k1 ++ [(a, .ins C [])]) out ∧ ∀ o k, out o k → o = .ret .non ∧ P (.val (.adr a)) k) : EvR K (tMake C (spC K Cc) dvs E tr) ro ka P := fun B F0 ta sg H Q e q =>
  ha B F0 ta sg H _ e fun vs H1 hl e1 => by
    intro x dx hx hdx hne
    obtain ⟨F, g, e1⟩ := e1
    obtain ⟨e2, g2⟩ := e1.lay (o := .own x) hdx rfl
    have hx2 : upd H1 dx (.own x) x = none := by rw [upd_ne (Ne.symm hne)]; exact hx
    have e3 := e2.cell (o := .ins C dx []) hx2 (n := .ins C []) ⟨dx, [], upd_same, rfl⟩
    obtain ⟨out, hC, ho⟩ := hC x
    have e4 : En K B F0 ro ((k1 ++ [(x, .ins C [])]) ++ []) (dvs.zip wd ++ (vs.zip ws ++ ta)) sg (upd (upd H1 dx (.own x)) x (.ins C dx [])) := by
      rw [List.append_nil]
      exact En.more ⟨_, g.trans g2, e3⟩ hd
    have hlen : (V.ref x :: (vs ++ dvs)).length = (W.val (.adr x) :: (ws ++ wd)).length := by rw [List.length_cons, List.length_cons, List.length_append, List.length_append, hl, hd.1]
    have hz : (V.ref x :: (vs ++ dvs)).zip (W.val (.adr x) :: (ws ++ wd)) = (V.ref x, W.val (.adr x)) :: (vs.zip ws ++ dvs.zip wd) := by rw [List.zip_cons_cons, List.zip_append hl]
    have e5 : En K B F0 ro ((k1 ++ [(x, .ins C [])]) ++ []) ((V.ref x :: (vs ++ dvs)).zip (W.val (.adr x) :: (ws ++ wd)) ++ ta) sg (upd (upd H1 dx (.own x)) x (.ins C dx [])) := by
      rw [hz]
      refine (e4.push_imm (v := .ref x) (w := .val (.adr x)) fun _ => rfl).held fun p hp => ?_
      rcases List.mem_cons.mp hp with rfl | hp
      · exact List.mem_cons_self
      · refine List.mem_cons_of_mem _ ?_
        rcases List.mem_append.mp hp with hp | hp
        · rcases List.mem_append.mp hp with hp | hp
          · exact List.mem_append_right _ (List.mem_append_left _ hp)
          · exact List.mem_append_left _ hp
        · exact List.mem_append_right _ (List.mem_append_right _ hp)
    refine sp_rel (kr := []) e5 hlen hC (fun o k h => ⟨_, (ho o k h).1⟩) fun d k2 v H' o e6 => ?_
    obtain ⟨he, p⟩ := ho _ _ o
    cases he
    rw [List.append_nil] at e6
    exact ⟨e6.tm_non List.mem_cons_self, q _ _ (.ref x) H' p (e6.pop.push_imm fun _ => rfl)⟩
theorem evr_ifT (h : EvT K tt ro ka true k1) (h1 : EvR K te ro k1 P) : EvR K (tIf tt te tf) ro ka P := fun B F0 ta sg H Q e q => h B F0 ta sg H _ e fun H1 e1 => h1 B F0 ta sg H1 Q e1 q
theorem evr_ifF (h : EvT K tt ro ka false k1) (h1 : EvR K tf ro k1 P) : EvR K (tIf tt te tf) ro ka P := fun B F0 ta sg H Q e q => h B F0 ta sg H _ e fun H1 e1 => h1 B F0 ta sg H1 Q e1 q
/-- o.f = e, e told by a word -/
theorem g_fldR {f : Str} (hv : EvR K tf ro ka P) (c : Cls K C) (nf : NoAttr K C f)
    (k : ∀ w k1, P w k1 → ∃ d k2 j fs, w = .val d ∧ EvD K te ro k1 (.val (.adr a)) k2 ∧ k2[j]? = some (a, .ins C fs) ∧ fs.length < 900 ∧ Gp K B F0 ta De.nx ro (k2.set j (a, .ins C (putD f d fs)))) : Gp K B F0 ta (sFld K te tf f De) ro ka := fun sg H e =>
  hv B F0 ta sg H _ e fun w k1 v H1 p e1 => by
    obtain ⟨d, k2, j, fs, rfl, ho, hj, hz, hk⟩ := k w k1 p
    refine ho B F0 _ sg H1 _ e1 fun x H2 e2 => ?_
    have hx := e2.tm_adr (v := x) (a := a) List.mem_cons_self
    subst hx
    obtain ⟨F, g, ef⟩ := e2
    obtain ⟨_, _, dx, xs, hH, rx⟩ := ef.ce _ (List.mem_of_getElem? hj)
    have vd := ef.tm (v, .val d) (List.mem_cons_of_mem _ List.mem_cons_self)
    have room : xs.length < 900 := by rw [rpf_len rx]; exact hz
    exact ⟨_, C, dx, xs, rfl, hH, c, nf, Nat.lt_trans room (by decide), hk _ _ ⟨F, g, (ef.write (o := .ins C dx (putF f v xs)) (n' := .ins C (putD f d fs)) hj ⟨dx, _, upd_same, rpf_put vd rx⟩).held fun p hp => List.mem_cons_of_mem _ (List.mem_cons_of_mem _ hp)⟩⟩
theorem q_fldR {f : Str} (hv : EvR K tf ro ka P) (c : Cls K C) (nf : NoAttr K C f)
    (k : ∀ w k1, P w k1 → ∃ d k2 j fs, w = .val d ∧ EvD K te ro k1 (.val (.adr a)) k2 ∧ k2[j]? = some (a, .ins C fs) ∧ fs.length < 900 ∧ Gp K B F0 ta (u De) ro (k2.set j (a, .ins C (putD f d fs)))) : Gp K B F0 ta (tSeq (sFld K te tf f) u De) ro ka := g_fldR (De := { De with nx := u De }) hv c nf k

/-! ### cells in fields, filled in -/
/-- what stands at a field, said otherwise -/
theorem rpf_fill {G : Hp} {x y : D} (h : ∀ u, Rp K G x u → Rp K G y u) {f : Str} : ∀ {fs : List (Str × D)} {r : List (Str × D)} {xs : List (Str × V)}, RpF K G (fs ++ (f, x) :: r) xs → RpF K G (fs ++ (f, y) :: r) xs
  | [], _, _, ⟨v, l, e, p, q⟩ => ⟨v, l, e, h v p, q⟩
  | _ :: _, _, _, ⟨v, l, e, p, q⟩ => ⟨v, l, e, p, rpf_fill h q⟩
/-- a field that holds the cell o, which is frozen by now -/
theorem En.fill {v : D} {f : Str} {j : Nat} {fs r : List (Str × D)} (e : En K B F0 ro ka ta sg H) (ho : (V.ref o, W.val v) ∈ ta) (hj : ka[j]? = some (a, .ins C (fs ++ (f, .adr o) :: r))) : En K B F0 ro (ka.set j (a, .ins C (fs ++ (f, v) :: r))) ta sg H := by
  obtain ⟨F, g, e⟩ := e
  have hv := e.tm _ ho
  refine ⟨F, g, { e with nd := ?_, ce := fun p hp => ?_ }⟩
  · rw [List.map_set]
    have same : (ka.map (·.1)).set j a = ka.map (·.1) := List.ext_getElem? fun i => by
      by_cases hij : j = i
      · subst hij
        rw [List.getElem?_set_self (by rw [List.length_map]; exact (List.getElem?_eq_some_iff.mp hj).1), List.getElem?_map, hj]
        rfl
      · rw [List.getElem?_set_ne hij]
    exact same.symm ▸ e.nd
  · rcases List.mem_or_eq_of_mem_set hp with q | rfl
    · exact e.ce p q
    · obtain ⟨h1, h2, dx, xs, h3, h4⟩ := e.ce _ (List.mem_of_getElem? hj)
      exact ⟨h1, h2, dx, xs, h3, rpf_fill (fun u hu => by rw [show u = .ref o from hu]; exact hv) h4⟩
end

section
variable {K : PySem.W.Frag} {B B' F F' F0 : Hp} {ro ro' : Ro} {ka k1 k2 k3 kr : Cells} {ta : List (V × W)} {sg sg' : L2.St} {H H' : Hp} {te tf tg td ty tk tv : TE} {tr : TA} {tt tu : TT} {w x y z : W} {n m : Nd} {C dx a o d : Addr} {b : Bool} {P : L2.St → Hp → Prop} {De : Ends} {u : TS}
/-- what a slot holds, said otherwise -/
theorem En.reslot {i : Nat} {v : D} (e : En K B F0 ro ka ta sg H) (hi : ro[i]? = some (some (.val (.adr a)))) (hv : (V.ref a, W.val v) ∈ ta) : En K B F0 (ro.set i (some (.val v))) ka ta sg H := by
  obtain ⟨F, g, e⟩ := e
  refine ⟨F, g, { e with ln := by rw [List.length_set]; exact e.ln, sl := fun j w q => ?_ }⟩
  rw [List.getElem?_set] at q
  split at q
  · rename_i hij
    subst hij
    split at q
    · cases q
      obtain ⟨x, h1, h2⟩ := e.sl _ _ hi
      obtain rfl : x = V.ref a := h2
      exact ⟨_, h1, e.tm _ hv⟩
    · cases q
  · exact e.sl j w q
/-- an own dict, frozen -/
theorem Gp.frzK {i : Nat} {ds : List (Key × D)} (hi : ro[i]? = some (some (.val (.adr a)))) (hp : (kr ++ [(a, Nd.dic ds)]).Perm ka) (h : Gp K B F0 ta P (ro.set i (some (.val (.dic ds)))) kr) : Gp K B F0 ta P ro ka := fun sg H e =>
  h sg H ((En.reslot (e.perm hp).freeze_k hi List.mem_cons_self).held fun p q => List.mem_cons_of_mem _ q)
/-- an object whose fields hold an own list and an own dict, frozen as a whole -/
theorem Gp.frzN {i : Nat} {f g : Str} {xs : List D} {ds : List (Key × D)} (hi : ro[i]? = some (some (.val (.adr a)))) (hp : (kr ++ [(a, Nd.ins C [(f, .adr o), (g, .adr d)]), (o, Nd.lst xs), (d, Nd.dic ds)]).Perm ka)
    (h : Gp K B F0 ta P (ro.set i (some (.val (.ins C [(f, .lst xs), (g, .dic ds)])))) kr) : Gp K B F0 ta P ro ka := fun sg H e => by
  have e0 : En K B F0 ro ((kr ++ [(a, Nd.ins C [(f, .adr o), (g, .adr d)]), (o, Nd.lst xs)]) ++ [(d, Nd.dic ds)]) ta sg H := by
    have := e.perm hp
    rwa [List.append_assoc]
  have e1 := e0.freeze_k
  have e2 := e1.fill (v := .dic ds) (f := g) (j := kr.length) (a := a) (C := C) (fs := [(f, .adr o)]) (r := []) List.mem_cons_self (by simp)
  have e3 : En K B F0 ro ((kr ++ [(a, Nd.ins C [(f, .adr o), (g, .dic ds)])]) ++ [(o, Nd.lst xs)]) ((V.ref d, W.val (.dic ds)) :: ta) sg H := by
    rw [List.set_append_right _ _ (Nat.le_refl _), Nat.sub_self] at e2
    rwa [List.append_assoc]
  have e4 := e3.freeze_l
  have e5 := e4.fill (v := .lst xs) (f := f) (j := kr.length) (a := a) (C := C) (fs := []) (r := [(g, .dic ds)]) List.mem_cons_self (by simp)
  rw [List.set_append_right _ _ (Nat.le_refl _), Nat.sub_self] at e5
  have e6 : En K B F0 ro kr _ sg H := En.freeze_i e5
  exact h sg H ((En.reslot e6 hi List.mem_cons_self).held fun p q => List.mem_cons_of_mem _ (List.mem_cons_of_mem _ (List.mem_cons_of_mem _ q)))
/-- a new value, its object with fields frozen as a whole -/
theorem EvR.frzN {f g : Str} {xs : List D} {ds : List (Key × D)} {R : W → Cells → Prop} (h : EvR K te ro ka R) (hR : ∀ w k, R w k → ∃ a o d, w = .val (.adr a) ∧ k = k1 ++ [(a, Nd.ins C [(f, .adr o), (g, .adr d)]), (o, Nd.lst xs), (d, Nd.dic ds)]) : EvD K te ro ka (.val (.ins C [(f, .lst xs), (g, .dic ds)])) k1 := fun B F0 ta sg H Q e q =>
  h B F0 ta sg H Q e fun w k v H' p e1 => by
    obtain ⟨a, o, d, rfl, rfl⟩ := hR w k p
    have hv := e1.tm_adr (v := v) (a := a) List.mem_cons_self
    subst hv
    have e0 : En K B F0 ro ((k1 ++ [(a, Nd.ins C [(f, .adr o), (g, .adr d)]), (o, Nd.lst xs)]) ++ [(d, Nd.dic ds)]) ta sg H' := by
      have := e1.pop
      rwa [List.append_assoc]
    have e2 := e0.freeze_k.fill (v := .dic ds) (f := g) (j := k1.length) (a := a) (C := C) (fs := [(f, .adr o)]) (r := []) List.mem_cons_self (by simp)
    have e3 : En K B F0 ro ((k1 ++ [(a, Nd.ins C [(f, .adr o), (g, .dic ds)])]) ++ [(o, Nd.lst xs)]) ((V.ref d, W.val (.dic ds)) :: ta) sg H' := by
      rw [List.set_append_right _ _ (Nat.le_refl _), Nat.sub_self] at e2
      rwa [List.append_assoc]
    have e5 := e3.freeze_l.fill (v := .lst xs) (f := f) (j := k1.length) (a := a) (C := C) (fs := []) (r := [(g, .dic ds)]) List.mem_cons_self (by simp)
    rw [List.set_append_right _ _ (Nat.le_refl _), Nat.sub_self] at e5
    exact q _ _ ((En.freeze_i e5).held fun p hp => by
      rcases List.mem_cons.mp hp with rfl | hp
      · exact List.mem_cons_self
      · exact List.mem_cons_of_mem _ (List.mem_cons_of_mem _ (List.mem_cons_of_mem _ hp)))

end
end DL
namespace DL
open PySem L2 PySem.W
/-! ### facts -/
theorem t0_ok {K : PySem.W.Frag} {p : Str × Option Str} {i : Nat} (h : fT0 p i K = true) : IsT0 K (He.dflAt p i K) := by
  unfold fT0 at h
  cases hl : K.lookup (He.dflAt p i K) with
  | none => rw [hl] at h; cases h
  | some ob =>
    rw [hl] at h
    obtain ⟨cls, dict, data, sl⟩ := ob
    cases cls with
    | type T =>
      cases data with
      | seq its n =>
        have h' : (decide (T = "tuple") && its.isEmpty) = true := h
        rw [Bool.and_eq_true, decide_eq_true_eq] at h'
        obtain ⟨rfl, h2⟩ := h'
        have : its = #[] := Array.isEmpty_iff.mp h2
        subst this
        exact ⟨_, n, hl, rfl, rfl⟩
      | _ => cases h
    | _ => cases h
theorem wok_t0 {K : PySem.W.Frag} {a : Addr} (h : IsT0 K a) (B F : Hp) : WOk K B F (.ref a) (.val (.tup [])) := by
  obtain ⟨o, n, h1, h2, h3⟩ := h
  exact ⟨a, [], rfl, .inr ⟨o, #[], n, h1, h2, h3, Nat.zero_le _, .nil⟩, rfl⟩
section
variable {P : Program} {w : World} {K : PySem.W.Frag} {mg : Str → Option Value} {base : Heap} {f : Addr} {fd : FuncData} {x qual : Str} {params : Arguments} {body : List Stmt} {scope : Scope} {ps N : List Str} {k j : Nat} {C : Ct} {dvs : List V}
end
end DL
namespace DL
open PySem L2 PySem.W
theorem hu1 {k : Nat} {A : Around} (r : Room k A) : A.units + 1 < cLine := by have := r.units; omega
end DL

namespace DL
open PySem L2 PySem.W
section
variable {K : PySem.W.Frag} {B F F0 : Hp} {ro : Ro} {ka k1 k2 : Cells} {ta : List (V × W)} {sg : L2.St} {H : Hp} {te tf : TE} {w : W} {n : Nd}
/-! ### is None -/
def isNonD : D → Bool
  | .non => true
  | _ => false
theorem isNonD_of {F : Hp} {d : D} {v : V} (h : Rp K F d v) : decide (v = .non) = isNonD d := by
  cases d with
  | non => rw [show v = .non from h]; rfl
  | bl b => rw [show v = .bl b from h]; rfl
  | int i => rw [show v = .int i from h]; rfl
  | str s => rw [show v = .str s from h]; rfl
  | ty n => rw [show v = .ty n from h]; rfl
  | adr a => rw [show v = .ref a from h]; rfl
  | tup ds => obtain ⟨a, _, rfl, _⟩ := h; rfl
  | lst ds => obtain ⟨a, _, rfl, _⟩ := h; rfl
  | dic ds => obtain ⟨a, _, rfl, _⟩ := h; rfl
  | dit ds => obtain ⟨a, _, rfl, _⟩ := h; rfl
  | din w ds => obtain ⟨a, _, rfl, _⟩ := h; rfl
  | ins C fs => obtain ⟨a, _, _, rfl, _⟩ := h; rfl
theorem En.isN {d : D} (e : En K B F0 ro ka ta sg H) {v : V} (h : (v, w) ∈ ta) (hw : w = .val d ∨ w = .vw d) : decide (v = .non) = isNonD d := by
  obtain ⟨F, _, e⟩ := e
  have := e.tm _ h
  rcases hw with rfl | rfl
  · exact isNonD_of (F := F) this
  · exact isNonD_of (F := uni B F) this
theorem ev_isN {d : D} (h : EvD K te ro ka w k1) (hw : w = .val d ∨ w = .vw d := by exact .inl rfl) : EvD K (tOp rIsN te (tC .non)) ro ka (.val (.bl (isNonD d))) k1 := fun B F0 ta sg H Q e q => h B F0 ta sg H _ e fun v H1 e1 =>
  ⟨rfl, by rw [e1.isN List.mem_cons_self hw]; exact q _ _ (e1.pop.push_imm fun _ => rfl)⟩
theorem EvNR.toR {R : Nd → Cells → Prop} (h : EvNR K te ro ka R) : EvR K te ro ka (fun w k => ∃ a n k0, w = .val (.adr a) ∧ R n k0 ∧ k = k0 ++ [(a, n)]) := fun B F0 ta sg H Q e q =>
  h B F0 ta sg H Q e fun n k a H' r e1 => q _ _ (.ref a) H' ⟨a, n, k, rfl, r, rfl⟩ (e1.push_imm fun _ => rfl)
end
end DL

namespace DL
open PySem L2 PySem.W
theorem sqf_stD (b : Bool) (ss : List Str) : SqF b (stD ss) := .inr (List.all_eq_true.mpr fun d hd => by
  obtain ⟨s, _, rfl⟩ := List.mem_map.mp hd
  rfl)
end DL
namespace DL
open PySem L2 PySem.W
section
variable {K : PySem.W.Frag} {ro : Ro} {ka k1 k2 k3 : Cells} {te : TE} {tr : TA} {w : W} {E : XK}
/-- a method, its end told -/
theorem ev_methA {Cc : Ct} {ws : List W} {C : Addr} {m : Str} {fs : List (Str × D)} {b : Bool} {d : D} (kr : Cells) (h : EvD K te ro ka w k1) (l : Io k1 w C fs b) (hm : fs.lookup m = none) (ha : EvA K tr ro k1 ws (k2 ++ kr)) (hC : Cc (w :: ws) k2 (Rt d k3)) : EvD K (tMeth C m (spC K Cc) [] E te tr) ro ka (.val d) (k3 ++ kr) :=
  (evr_meth kr h l hm ha hC fun o k ho => ⟨d, ho.1⟩).d fun w' k ⟨d', k4, ho, e1, e2⟩ => by
    obtain ⟨h1, h2⟩ := ho
    cases h1
    exact ⟨e1, by rw [e2, h2]⟩
end
end DL
namespace DL
open PySem L2 PySem.W
/-! ### tables with text keys -/
section
variable {β : Type} {f : β → D}
end
end DL
namespace DL
open PySem L2 PySem.W
section
variable {K : PySem.W.Frag} {ro : Ro} {ka k1 : Cells} {te tf : TE} {P : W → Cells → Prop} {R : Nd → Cells → Prop}
end
end DL
namespace DL
open PySem L2 PySem.W
section
variable {K : PySem.W.Frag} {B F0 : Hp} {ro : Ro} {ka k1 : Cells} {ta : List (V × W)} {te : TE} {w : W} {b : Bool} {R : Nd → Cells → Prop} {De : Ends} {u : TS}
/-- the texts of a list or tuple -/
theorem ei_strsL {t b : Bool} {ss : List Str} (h : EvD K te ro ka w k1) (l : Lk k1 w t (stD ss) b) : EvI K (iSeq K te) ro ka (ss.map fun s => W.val (.str s)) (Stay w (stD ss)) k1 := by
  have e : (stD ss).map (part b) = ss.map fun s => W.val (.str s) := by
    unfold stD
    rw [List.map_map]
    exact List.map_congr_left fun s _ => by cases b <;> rfl
  have := ei_seq h l
  rwa [e] at this
theorem EvNR.lstD {ds : List D} (h : EvNR K te ro ka R) (hR : ∀ n k, R n k → n = .lst ds ∧ k = k1) : EvD K te ro ka (.val (.lst ds)) k1 := fun B F0 ta sg H Q e q => h B F0 ta sg H Q e fun n k a H1 r e1 => by
  obtain ⟨rfl, rfl⟩ := hR n k r
  exact q _ _ e1.freeze_l
end
end DL
namespace DL
open PySem L2 PySem.W
section
variable {K : PySem.W.Frag} {ro : Ro} {ka k1 k2 : Cells} {ty td : TE} {P : W → Cells → Prop}
end
end DL
namespace DL
open PySem L2 PySem.W
section
variable {K : PySem.W.Frag} {ro : Ro} {ka k1 : Cells} {te tf : TE} {n : Nd} {y : W} {E : XK}
end
end DL

/-! ED: d.get(k) (own work). -/
namespace DL
open PySem L2 PySem.W
section
variable {K : PySem.W.Frag} {ro : Ro} {ka k1 k2 : Cells} {td ty : TE} {w : W} {b : Bool}
end
end DL

/-! EE: try with any number of except clauses, each with or without a name (own work). -/
namespace DL
open PySem L2 PySem.W PyProof.Rows

/-- the exception at a has come down in X; but for it the state is as σ, H tell -/
def Down (X : Cx) (pins : List (Addr × Obj)) (a : Addr) (cls : Value) (d : Option Addr) (σ : L2.St) (H : Hp) (s : Shared) : Prop :=
  ∃ (B : Heap) (s0 : Shared), L2.Inv X pins σ H s0 ∧ (∀ b o, s0.heap.get? b = some o → b ∉ frs X.stack → B.get? b = some o) ∧ s0.heap.UpToSlots s.heap ∧
    HandSPX.FlyingZ B (X.env :: X.outer) a (Zc cls d) s.heap ∧ H a = none ∧ s.os = s0.os ∧ AllBare s.gens
section
variable {X : Cx} {pins : List (Addr × Obj)} {a : Addr} {cls : Value} {d : Option Addr} {σ : L2.St} {H : Hp} {s : Shared}
theorem Down.inv (z : Down X pins a cls d σ H s) : L2.Inv X pins σ H s :=
  let ⟨_, _, I, nb, up, fl, _, os, ag⟩ := z
  I.landed nb fl.1 up os ag
theorem Down.obj (z : Down X pins a cls d σ H s) : ∃ (oe : Obj) (vs : Array Value), s.heap.get? a = some oe ∧ Zc cls d oe ∧ oe.data = .fields vs :=
  let ⟨_, _, _, _, _, fl, _⟩ := z
  let ⟨oe, vs, h1, h2, h3⟩ := fl.there
  ⟨oe, vs, h1, h2, h3⟩
/-- no frame's slots stand there -/
theorem Down.off (z : Down X pins a cls d σ H s) : a ∉ frs (X.env :: X.outer) := fun hm => by
  obtain ⟨oe, vs, h1, _, h3⟩ := z.obj
  obtain ⟨_, _, _, _, _, fl, _⟩ := z
  obtain ⟨_, o, h4, h5⟩ := fl.2.2.1.mem hm
  rw [h1] at h4
  cases h4
  exact h5 _ h3
/-- the state that an except suite finds -/
theorem Down.within (z : Down X pins a cls d σ H s) (hf : X.env.frame = some X.env.locals) : ∃ oe vs, oe.data = .fields vs ∧ Zc cls d oe ∧ s.heap.get? a = some oe ∧ L2.Inv (X.suite a ((a, oe) :: (X.pn ++ pins))) [] σ H s := by
  obtain ⟨oe, vs, h1, h2, h3⟩ := z.obj
  have off := z.off
  have na : H a = none := let ⟨_, _, _, _, _, _, na, _⟩ := z; na
  refine ⟨oe, vs, h3, h2, h1, z.inv.suite h1 h3 na (fun e => off ?_) fun hm => off ?_⟩
  · exact List.mem_filterMap.mpr ⟨X.env, List.mem_cons_self, by rw [hf, e]⟩
  · obtain ⟨e, he, q⟩ := List.mem_filterMap.mp hm
    exact List.mem_filterMap.mpr ⟨e, List.mem_cons_of_mem _ he, q⟩
theorem Down.again {M : Model} {A : Around} {E : Value → Shared → Prop} {Q : Unit → Shared → Prop} (z : Down X pins a cls d σ H s) (k : ∀ s', Down X pins a cls d σ H s' → Q () s') : wpAny M A (setFlight (.ref a) none) Q E s := by
  obtain ⟨B, s0, I, nb, up, fl, na, os, ag⟩ := z
  exact HandSPX.lands_againZ fl fun h' fl' up' => k _ ⟨B, s0, I, nb, up.trans up', fl', na, os, ag⟩
/-- no clause takes it -/
theorem Down.pass {W : WX} {Q : Flow → Shared → Prop} (z : Down X pins a cls d σ H s) (hs : X.stack = X.env :: X.outer) (hf : X.env.frame = some X.env.locals) (tk : Takes X W) (w : W cls d σ H) : wpAny (model X.prog X.w) X.A (handleBy (.ref a) X.env []) Q X.xe s := by
  obtain ⟨B, s0, I, nb, up, fl, na, os, ag⟩ := z
  obtain ⟨oe, vs, T, oT, ts, h1, h2, h3, h4, _⟩ := id fl.2.2.2
  have out : wpAny (model X.prog X.w) X.A (setFlight (.ref a) X.env.frame) (fun _ s4 => wpAny (model X.prog X.w) X.A (throw (.ref a) : Sem Flow) Q X.xe s4) X.xe s := by
    rw [hf]
    exact HandSPX.setFlight_upZ fl fun h' held up' => wpAny_throw (tk _ _ ⟨a, B, s0, pins, σ, H, cls, d, rfl, I, nb, up.trans up', .inr (.inr (hs ▸ held)), na, os, ag, w⟩)
  apply wpAny_handleBy_nil
  unfold PySem.passOn
  refine wpAny_bind (wpAny_field h1 h3 h4 ?_)
  have ne : ¬ (Value.ref T == Value.none) = true := by simp
  rw [if_neg ne]
  first
    | exact wpAny_bind (wpAny_pure (wpAny_bind out))
    | exact wpAny_bind out
end
/-- a clause: its class, the slot of its name, its suite -/
abbrev Cla := Value × Option Nat × (Addr → Value → Option Addr → TS)
/-- where a suite ends: its name is gone -/
def goneE (D : Ends) : Option Nat → Ends
  | none => D
  | some i => { nx := fun σ H => D.nx (σ.set i none) H, rt := D.rt, bk := fun σ H => D.bk (σ.set i none) H, ct := fun σ H => D.ct (σ.set i none) H }
def nameS (σ : L2.St) (a : Addr) : Option Nat → L2.St
  | none => σ
  | some i => σ.set i (some (.ref a))
/-- what one clause wishes: that its class tells whether it takes the exception; if so its suite's wish, else W -/
def oneCla (K : PySem.W.Frag) (D : Ends) (c : Cla) (W : WX) : WX := fun cls d σ H =>
  (exmOne K cls c.1 = some true ∧ ∀ a, H a = none → c.2.2 a cls d (goneE D c.2.1) (nameS σ a c.2.1) H) ∨ (exmOne K cls c.1 = some false ∧ W cls d σ H)
def wCla (K : PySem.W.Frag) (Wout : WX) (D : Ends) (l : List Cla) : WX := l.foldr (oneCla K D) Wout
/-- these clauses deal with whatever W lets come down -/
def Deals (X : Cx) (D : Ends) (hds : List ExceptHandler) (W : WX) : Prop := ∀ (pins : List (Addr × Obj)) (a : Addr) (cls : Value) (d : Option Addr) (σ : L2.St) (H : Hp) (s : Shared),
  Down X pins a cls d σ H s → W cls d σ H → wpAny (model X.prog X.w) X.A (handleBy (.ref a) X.env hds) (SP X pins D) X.xe s
/-- a suite keeps its wish -/
def SuiteOk (X : Cx) (b0 : Stmt) (suite : List Stmt) (ts : Addr → Value → Option Addr → TS) : Prop :=
  ∀ (a : Addr) (oe : Obj) (cls : Value) (d : Option Addr) (pn : List (Addr × Obj)), Zc cls d oe → (∃ vs, oe.data = .fields vs) → PSs (X.suite a ((a, oe) :: pn)) (b0 :: suite) (ts a cls d)
section
variable {X : Cx} {pins : List (Addr × Obj)} {a : Addr} {cls : Value} {d : Option Addr} {σ : L2.St} {H : Hp} {s : Shared} {D : Ends} {Wout W : WX} {f : Flow}
theorem Deals.nil (hs : X.stack = X.env :: X.outer) (hf : X.env.frame = some X.env.locals) (tk : Takes X Wout) : Deals X D [] Wout := fun _ _ _ _ _ _ _ z w => z.pass hs hf tk w
/-- the end of a suite without a name, seen from outside -/
theorem SP.outward {q0 : List (Addr × Obj)} {X' : Cx} (e : SP X' q0 D f s) (k : ∀ σ1 H1, L2.Inv X' q0 σ1 H1 s → L2.Inv X pins σ1 H1 s) : SP X pins D f s := by
  rcases f with _ | _ | _ | u
  · obtain ⟨σ1, H1, J, y⟩ := e
    exact ⟨σ1, H1, k _ _ J, y⟩
  · obtain ⟨σ1, H1, J, y⟩ := e
    exact ⟨σ1, H1, k _ _ J, y⟩
  · obtain ⟨σ1, H1, J, y⟩ := e
    exact ⟨σ1, H1, k _ _ J, y⟩
  · obtain ⟨v, σ1, H1, J, y⟩ := e
    exact ⟨v, σ1, H1, k _ _ J, y⟩
/-- a clause's class, looked up where the suite will stand -/
theorem Down.class_read (z : Down X pins a cls d σ H s) (hf : X.env.frame = some X.env.locals) {x : Str} {c : Value} {p : Pos} (hc : Names X x c) {Q : Value → Shared → Prop} {E : Value → Shared → Prop} (k : Q c s) :
    wpAny (model X.prog X.w) (X.A.mark (some (.ref a))) (eval (.Name x p) X.env) Q E s := by
  obtain ⟨oe, vs, _, _, _, S⟩ := z.within hf
  obtain ⟨g, nd, m | ⟨m, v, nn⟩⟩ := hc
  · exact ld_glob (X := X.suite a ((a, oe) :: (X.pn ++ pins))) S g m k nd
  · exact ld_blt (X := X.suite a ((a, oe) :: (X.pn ++ pins))) S g m v k nn nd
/-- does the class at c take it? -/
theorem Down.asked (z : Down X pins a cls d σ H s) {c : Value} {b : Bool} (h : exmOne X.K cls c = some b) : PySem.W.Looks (model X.prog X.w) s.heap (excMatches (.ref a) c) b :=
  PySem.W.exm_one z.inv.kIn (fun A Q E s' kp q => by
    obtain ⟨oe, vs, at_, zc, _⟩ := z.obj
    exact wpAny_typeOf_ref (kp _ _ at_) (zc.1.symm ▸ q)) h
theorem Deals.plain (hf : X.env.frame = some X.env.locals) {x : Str} {c : Value} {ts : Addr → Value → Option Addr → TS} {b0 : Stmt} {suite : List Stmt} {p q : Pos} {hds : List ExceptHandler} (hc : Names X x c) (ok : SuiteOk X b0 suite ts) (rest : Deals X D hds W) :
    Deals X D (.ExceptHandler (some (.Name x p)) none (b0 :: suite) q :: hds) (oneCla X.K D (c, none, ts) W) := fun pins a cls d σ H s z w => by
  refine wpAny_handleBy_cons (codeAny_handlers_test (z.class_read hf hc ?_)) (fun e => by cases e)
  rcases w with ⟨hb, w⟩ | ⟨hb, w⟩ <;> refine (z.asked hb).here ?_
  · refine codeAny_handlers_suite (z.again fun s1 z1 => ?_)
    obtain ⟨oe, vs, dat, zc, _, S⟩ := z1.within hf
    have na : H a = none := z.elim fun _ r => r.elim fun _ r => r.2.2.2.2.1
    exact wpAny_mono ((ok a oe cls d (X.pn ++ pins) zc ⟨_, dat⟩).run [] s1 σ H D S (w a na)) (fun g s2 e => SP.outward e fun _ _ J => J.unsuite z.inv.ok) fun _ _ z => z.elim
  · exact rest pins a cls d σ H s z w
theorem Deals.named (hf : X.env.frame = some X.env.locals) (hN : X.N.Nodup) {x n : Str} {c : Value} {i : Nat} {ts : Addr → Value → Option Addr → TS} {b0 : Stmt} {suite : List Stmt} {p q : Pos} {hds : List ExceptHandler} (hc : Names X x c) (hi : X.N[i]? = some n) (hl : X.env.kindOf n = some .local)
    (ok : SuiteOk X b0 suite ts) (rest : Deals X D hds W) : Deals X D (.ExceptHandler (some (.Name x p)) (some n) (b0 :: suite) q :: hds) (oneCla X.K D (c, some i, ts) W) := fun pins a cls d σ H s z w => by
  refine wpAny_handleBy_cons (codeAny_handlers_test (z.class_read hf hc ?_)) (fun e => by cases e)
  rcases w with ⟨hb, w⟩ | ⟨hb, w⟩ <;> refine (z.asked hb).here ?_
  · refine codeAny_handlers_suite_as (z.again fun s1 z1 => ?_)
    obtain ⟨oe, vs, dat, zc, _, S⟩ := z1.within hf
    have na : H a = none := z.elim fun _ r => r.elim fun _ r => r.2.2.2.2.1
    refine store_ok (X := X.suite a ((a, oe) :: (X.pn ++ pins))) (v := .ref a) S hN hi (.inl hl) rfl (fun s2 S2 => ?_) (.inr hl)
    refine wpAny_mono ((ok a oe cls d (X.pn ++ pins) zc ⟨_, dat⟩).run [] s2 _ H (goneE D (some i)) S2 (w a na)) (fun g s3 e => ?_) fun _ _ z => z.elim
    rcases g with _ | _ | _ | u
    · obtain ⟨σ1, H1, J, y⟩ := e
      exact gone_ok (J.unsuite z.inv.ok) hN hi hl fun s4 J4 => ⟨_, H1, J4, y⟩
    · obtain ⟨σ1, H1, J, y⟩ := e
      exact gone_ok (J.unsuite z.inv.ok) hN hi hl fun s4 J4 => ⟨_, H1, J4, y⟩
    · obtain ⟨σ1, H1, J, y⟩ := e
      exact gone_ok (J.unsuite z.inv.ok) hN hi hl fun s4 J4 => ⟨_, H1, J4, y⟩
    · obtain ⟨v, σ1, H1, J, y⟩ := e
      exact gone_ok (J.unsuite z.inv.ok) hN hi hl fun s4 J4 => ⟨v, _, H1, J4, y⟩
  · exact rest pins a cls d σ H s z w
end
section
variable {X : Cx} {body : List Stmt} {h0 : ExceptHandler} {hds : List ExceptHandler} {l : List Cla} {pos : Pos} {tb : WX → TS} {Wout : WX}
/-- try: body, except .., except .. as .. -/
theorem ps_tryC (hs : X.stack = X.env :: X.outer) (hf : X.env.frame = some X.env.locals) (tk : Takes X Wout)
    (hb : ∀ (W : WX) (pn : List (Addr × Obj)) (xe : Value → Shared → Prop), Takes (X.tr pn xe) W → PassesOwn (model X.prog X.w) X.A X.env xe → PSs (X.tr pn xe) body (tb W))
    (hh : ∀ D, Deals X D [] Wout → Deals X D (h0 :: hds) (wCla X.K Wout D l)) : PS X (.Try body (h0 :: hds) [] [] pos) (fun D σ H => tb (wCla X.K Wout D l) D σ H) where
  run pins s σ H D I h := by
    have ok := I.ok
    have hfr : X.A.frames = some (X.env :: X.outer) := ok.frames.trans (congrArg some hs)
    apply wpAny_Try_except
    let xe : Value → Shared → Prop := fun e s1 => wpAny (model X.prog X.w) X.A (noteFrame e X.env) (fun _ s2 => wpAny (model X.prog X.w) X.A (setFlight e none) (fun _ s3 =>
      wpAny (model X.prog X.w) X.A (handleBy e X.env (h0 :: hds)) (SP X pins D) X.xe s3) X.xe s2) X.xe s1
    have catches : Takes (X.tr (X.pn ++ pins) xe) (wCla X.K Wout D l) := by
      rintro _ s' ⟨a, B, s0, pins', σ', H', cls, d, rfl, J, nb, up, sky, na, os, ag, w⟩
      have sky' : Sky B (X.env :: X.outer) a (Zc cls d) X.env.locals s'.heap := hs ▸ sky
      exact Sky.land Zc.steady hfr hf sky' fun h3 fl up3 => hh D (.nil hs hf tk) _ _ _ _ _ _ _ ⟨B, s0, J.ofTry ok, nb, up.trans up3, fl, na, os, ag⟩ w
    refine wpAny_mono ((hb _ (X.pn ++ pins) xe catches PassesOwn.looking).run [] s σ H D (I.toTry _) h) (fun f s1 e => ?_) fun _ _ z => z
    have back := SP.outward (X := X) (pins := pins) e fun _ _ J => J.ofTry ok
    cases f with
    | next => exact wpAny_execs_nil back
    | ret u => exact back
    | brk => exact back
    | cont => exact back
end
end DL

/-! EF: what several clauses do with an exception, by data (own work). -/
namespace DL
open PySem L2 PySem.W
/-- of the clauses l the one with oi, ts takes an exception of C1 -/
inductive Hit (K : PySem.W.Frag) (C1 : Addr) : List Cla → Option Nat → (Addr → Value → Option Addr → TS) → Prop
  | here {c : Value} {oi : Option Nat} {ts : Addr → Value → Option Addr → TS} {r : List Cla} (h : exmOne K (.ref C1) c = some true) : Hit K C1 ((c, oi, ts) :: r) oi ts
  | next {c : Value} {oi oj : Option Nat} {ts us : Addr → Value → Option Addr → TS} {r : List Cla} (h : exmOne K (.ref C1) c = some false) (k : Hit K C1 r oi ts) : Hit K C1 ((c, oj, us) :: r) oi ts
/-- the slots of a suite: the exception's name alone is told -/
def suiteR (n : Nat) (a : Addr) : Option Nat → Ro
  | none => List.replicate n none
  | some i => (List.replicate n none).set i (some (.val (.adr a)))
section
variable {K : PySem.W.Frag} {B F0 : Hp} {ro : Ro} {ka k1 k2 k3 kr : Cells} {ta : List (V × W)} {sg : L2.St} {H : Hp} {te tf : TE} {tr : TA} {C C1 : Addr} {gs : List (Str × D)} {E : XK} {De De' : Ends} {dx : Option Addr} {l : List Cla} {oi : Option Nat} {ts : Addr → Value → Option Addr → TS} {Wout : WX} {u : TS}
theorem En.wiped (e : En K B F0 ro ka ta sg H) {σ : L2.St} (h : σ.length = ro.length) : En K B F0 (List.replicate ro.length none) ka ta σ H :=
  let ⟨F, g, q⟩ := e
  ⟨F, g, q.frame (by rw [List.length_replicate, h]) fun i w z => by rw [List.getElem?_replicate] at z; split at z <;> cases z⟩
theorem hit_wish {D : Ends} {σ : L2.St} (hit : Hit K C1 l oi ts) (h : ∀ a, ts a (.ref C1) dx (goneE D oi) (nameS σ a oi) H) : wCla K Wout D l (.ref C1) dx σ H := by
  induction hit with
  | here hx => exact .inl ⟨hx, fun a _ => h a⟩
  | next hx _ ih => exact .inr ⟨hx, ih h⟩
theorem xw_cla (hit : Hit K C1 l oi ts) (h : ∀ a, Gp K B F0 ta (ts a (.ref C1) dx (goneE De oi)) (suiteR ro.length a oi) ka) (e : En K B F0 ro ka ta sg H) : XW ro.length (wCla K Wout De l) (.ref C1) dx H := fun σ hσ =>
  hit_wish hit fun a => by
    have e2 := e.wiped hσ
    cases oi with
    | none => exact h a σ H e2
    | some i => exact h a _ H (e2.setA i a)
/-- the same as a statement -/
theorem g_dropY (h : EvX K te ro ka (XW ro.length (wCla K Wout De l)) C1 gs k2) (hit : Hit K C1 l oi ts) (hs : ∀ a dx, Gp K B F0 ta (ts a (.ref C1) (some dx) (goneE De oi)) (suiteR ro.length a oi) (k2 ++ [(dx, .xd gs)])) : Gp K B F0 ta (tDrop te De') ro ka := fun sg H e =>
  h B F0 ta sg H _ e fun dx H' e' => xw_cla hit (fun a => hs a dx) e'
/-- te ends with an error without fields -/
def EvX0 (K : PySem.W.Frag) (te : TE) (ro : Ro) (ka : Cells) (E : XK) (C1 : Addr) (k2 : Cells) : Prop := ∀ B F0 ta sg H (Q : VK), En K B F0 ro ka ta sg H → (∀ H', En K B F0 ro k2 ta sg H' → E (.ref C1) none H') → te sg H Q
theorem evx0_call {Cc : Ct} {ws : List W} {E' : XK} (ha : EvA K tr ro ka ws (k2 ++ kr)) (hC : Cc ws k2 (X0 C1 k3)) (hE : E' = E) : EvX0 K (tCall (spC K Cc) [] E' tr) ro ka E C1 (k3 ++ kr) := fun B F0 ta sg H Q e q => by
  subst hE
  refine ha B F0 ta sg H _ e fun vs H1 hl e1 => ?_
  rw [List.append_nil]
  exact sp_exc0 e1 hl hC (fun _ _ z => z) fun H' e3 => q H' e3
end
end DL

/-! EG: enumerate of lists (own work). -/
namespace DL
open PySem L2 PySem.W
section
variable {K : PySem.W.Frag} {ro : Ro} {ka k1 : Cells} {te : TE} {w : W}
end
end DL

namespace DL
open PySem L2 PySem.W
end DL

/-! EH: for loops of the hand layer out of the library's Goes: what an iterator hands out, told once, serves every caller (own work). -/
namespace DL
open PySem L2 PySem.W PyProof.Rows
end DL

/-! EI: nothing of its own (kept for the order of the parts). -/

/-! EJ: for i, x in enumerate(t), t a tuple: the library's GoesN over its Draws.tuple, told for the hand layer (own work). -/
namespace DL
open PySem L2 PySem.W PyProof.Rows
/-- what stands at turn i: the count, the iterator; the three lie apart -/
structure EnT (a e it : Addr) (i : Nat) (h : Heap) : Prop where
  en : ∃ old, IsEnum h e it (0 + (i : Int)) old
  itr : h.IsTupleIter it a i
  apart : e ≠ it ∧ a ≠ it ∧ a ≠ e
namespace EnT
variable {a e it : Addr} {i : Nat} {h : Heap}
theorem cells (z : EnT a e it i h) : ∀ b ∈ [e, it], ∃ o, h.get? b = some o ∧ ∀ v, o.data ≠ .cell v := by
  obtain ⟨⟨_, x⟩, ⟨o, y, _, d⟩, _⟩ := z
  simp only [List.forall_mem_cons, List.not_mem_nil, false_imp_iff, implies_true, and_true]
  exact ⟨⟨_, x, fun _ c => nomatch c⟩, o, y, fun _ c => nomatch d.symm.trans c⟩
theorem le (z : EnT a e it i h) {b T : Addr} (hb : b ∈ [e, it]) (hT : h.objs.size ≤ T) : b ≠ T := fun q =>
  let ⟨_, y, _⟩ := z.cells b hb
  Nat.lt_irrefl _ (Nat.lt_of_lt_of_le (q ▸ Heap.lt_size y) hT)
theorem out (z : EnT a e it i h) : e ∉ [it, a] := by
  have := z.apart
  simp only [List.mem_cons, List.not_mem_nil, or_false, not_or]
  exact ⟨this.1, this.2.2.symm⟩
end EnT
end DL

/-! EK: enumerate of lists and tuples alike (own work). -/
namespace DL
open PySem L2 PySem.W
section
variable {K : PySem.W.Frag} {ro : Ro} {ka k1 : Cells} {te : TE} {w : W}
end
end DL
namespace DL
open PySem L2 PySem.W
section
variable {K : PySem.W.Frag} {B F0 : Hp} {ro : Ro} {ka : Cells} {ta : List (V × W)} {De : Ends} {t u : TS}
theorem Gp.up {ta' : List (V × W)} {P : L2.St → Hp → Prop} (h : Gp K B F0 ta P ro ka) (s : ∀ p ∈ ta, p ∈ ta') : Gp K B F0 ta' P ro ka := fun sg H e => h sg H (e.held s)
end
section
variable {X : Cx}
end
/-- w holds the texts ys: a list or tuple of them, or a dict with these keys -/
inductive HasS (ka : Cells) : W → List Str → Prop where
  | sq {w : W} {t b : Bool} {ys : List Str} (l : Lk ka w t (stD ys) b) : HasS ka w ys
  | dc {w : W} {ds : List (Key × D)} {b : Bool} {ys : List Str} (l : Dk ka w ds b) (h : ∀ s, (getT ds (.inr s)).isSome = decide (s ∈ ys)) : HasS ka w ys
section
variable {K : PySem.W.Frag} {ro : Ro} {ka k1 k2 : Cells} {te tf : TE} {y : W}
end
end DL

/-! EL: cells frozen for the length of one expression, then cells again (own work). -/
namespace DL
open PySem L2 PySem.W
/-! ### data that reads no cell: numbers, texts, tuples of these -/
mutual
def tI : D → Bool
  | .lst _ => false | .dic _ => false | .dit _ => false | .ins _ _ => false | .din _ _ => false
  | .tup xs => tIL xs
  | _ => true
def tIL : List D → Bool
  | [] => true
  | d :: ds => tI d && tIL ds
end
section
variable {K : PySem.W.Frag} {B B' F F' F0 H H' : Hp} {ro ro' : Ro} {ka k1 k2 k3 kr kt : Cells} {ta tb : List (V × W)} {sg sg' : L2.St} {te tf : TE} {tt : TT} {w x y : W} {n : Nd} {a : Addr} {C : Addr}
/-- the heap F with the cells kt of H put in -/
def thF (F H : Hp) (kt : Cells) : Hp := fun a => if a ∈ kt.map (·.1) then H a else F a
theorem thF_out {a : Addr} (h : a ∉ kt.map (·.1)) : thF F H kt a = F a := if_neg h
theorem thF_sub (h : ∀ p ∈ kt, F p.1 = none) : Sub F (thF F H kt) := fun a o e => by
  rw [thF_out fun m => ?_]
  · exact e
  · obtain ⟨p, hp, rfl⟩ := List.mem_map.mp m
    rw [h p hp] at e
    cases e
/-- cells of the three kinds -/
def ndK : Nd → Bool
  | .lst _ => true | .dic _ => true | .ins _ _ => true | .din _ _ => true
  | _ => false
/-- what is known of cells that are put in -/
structure Thw (K : PySem.W.Frag) (F H : Hp) (kt : Cells) : Prop where
  no : ∀ p ∈ kt, F p.1 = none
  ok : ∀ p ∈ kt, NdOk K F H p.1 p.2
  kd : ∀ p ∈ kt, ndK p.2 = true
theorem Thw.gr (t : Thw K F H kt) (hB : ∀ p ∈ kt, B p.1 = none) : Gr B F (thF F H kt) := ⟨thF_sub t.no, fun a h1 h2 => by
  rw [thF_out fun m => ?_]
  · exact h1
  · obtain ⟨p, hp, rfl⟩ := List.mem_map.mp m
    exact h2 (hB p hp)⟩
theorem EnF.apart (e : EnF K B F ro (k1 ++ kt) ta sg H) {p : Addr × Nd} (hp : p ∈ k1) : p.1 ∉ kt.map (·.1) := fun m => by
  have nd := e.nd
  rw [List.map_append, List.nodup_append] at nd
  exact nd.2.2 p.1 (List.mem_map.mpr ⟨p, hp, rfl⟩) p.1 m rfl
/-! ### data that reads no cell stays without the cells -/
section
variable (no : ∀ b ∈ kt.map (·.1), ∃ o, F' b = some o ∧ isfz o = false ∧ ∀ xs, o ≠ .tup xs)
include no
theorem sqt_off {b : Addr} {xs : List V} (h : SqT K F' b xs) : SqT K (off F' kt) b xs := by
  rcases h with h | h
  · have m : b ∉ kt.map (·.1) := fun m => by
      obtain ⟨o, h1, h2, h3⟩ := no b m
      rcases h with h | ⟨z, h⟩
      · rw [h1] at h
        exact h3 _ (Option.some.inj h)
      · rw [h1] at h
        cases h
        cases h2
    exact .inl (h.elim (fun q => .inl (by rw [off_out m]; exact q)) fun ⟨z, q⟩ => .inr ⟨z, by rw [off_out m]; exact q⟩)
  · exact .inr h
mutual
theorem rp_off : ∀ (d : D) (v : V), tI d = true → Rp K F' d v → Rp K (off F' kt) d v
  | .non, v, _, h => h
  | .bl _, v, _, h => h
  | .int _, v, _, h => h
  | .str _, v, _, h => h
  | .ty _, v, _, h => h
  | .adr _, v, _, h => h
  | .tup ds, v, t, h => by
    obtain ⟨b, xs, e, h1, h2⟩ := h
    exact ⟨b, xs, e, sqt_off no h1, rpl_off ds xs t h2⟩
theorem rpl_off : ∀ (ds : List D) (xs : List V), tIL ds = true → RpL K F' ds xs → RpL K (off F' kt) ds xs
  | [], xs, _, h => h
  | d :: ds, xs, t, h => by
    obtain ⟨x, ys, e, h1, h2⟩ := h
    rw [tIL, Bool.and_eq_true] at t
    exact ⟨x, ys, e, rp_off d x t.1 h1, rpl_off ds ys t.2 h2⟩
end
end
end
/-! ### what a cell stands for -/
/-- the cell at a, with what stands behind it among kt, is the data d -/
def FrzD (K : PySem.W.Frag) (kt : Cells) (a : Addr) (d : D) : Prop := ∀ F H, Nz F → Thw K F H kt → Rp K (thF F H kt) d (.ref a)
/-- the same, or a cell and what it stands for -/
inductive FzR (K : PySem.W.Frag) (kt : Cells) : D → D → Prop where
  | s (d : D) : FzR K kt d d
  | a {a : Addr} {d : D} (h : FrzD K kt a d) : FzR K kt (.adr a) d
section
variable {K : PySem.W.Frag} {F H : Hp} {kt : Cells} {a : Addr} {C : Addr}
theorem FzR.rp {d e : D} {v : V} (z : FzR K kt d e) (nz : Nz F) (t : Thw K F H kt) (h : Rp K F d v) : Rp K (thF F H kt) e v := by
  cases z with
  | s => exact Rp.mono (thF_sub t.no).exz nz _ _ h
  | a q =>
    obtain rfl : v = _ := h
    exact q F H nz t
def FzL (K : PySem.W.Frag) (kt : Cells) : List D → List D → Prop
  | [], es => es = []
  | d :: ds, es => ∃ e r, es = e :: r ∧ FzR K kt d e ∧ FzL K kt ds r
theorem FzL.same : ∀ ds : List D, FzL K kt ds ds
  | [] => rfl
  | d :: ds => ⟨d, ds, rfl, .s d, FzL.same ds⟩
theorem FzL.rp (nz : Nz F) (t : Thw K F H kt) : ∀ {ds es : List D} {xs : List V}, FzL K kt ds es → RpL K F ds xs → RpL K (thF F H kt) es xs
  | [], es, xs, z, h => by
    obtain rfl : es = [] := z
    exact h
  | d :: ds, es, xs, ⟨e, r, e1, z1, z2⟩, ⟨x, ys, e2, h1, h2⟩ => by
    subst e1
    exact ⟨x, ys, e2, z1.rp nz t h1, FzL.rp nz t z2 h2⟩
def FzF (K : PySem.W.Frag) (kt : Cells) : List (Str × D) → List (Str × D) → Prop
  | [], es => es = []
  | (k, d) :: ds, es => ∃ e r, es = (k, e) :: r ∧ FzR K kt d e ∧ FzF K kt ds r
theorem FzF.rp (nz : Nz F) (t : Thw K F H kt) : ∀ {ds es : List (Str × D)} {xs : List (Str × V)}, FzF K kt ds es → RpF K F ds xs → RpF K (thF F H kt) es xs
  | [], es, xs, z, h => by
    obtain rfl : es = [] := z
    exact h
  | (k, d) :: ds, es, xs, ⟨e, r, e1, z1, z2⟩, ⟨x, ys, e2, h1, h2⟩ => by
    subst e1
    exact ⟨x, ys, e2, z1.rp nz t h1, FzF.rp nz t z2 h2⟩
end
/-- the slots ro' are those of ro, but for cells that are told as what they stand for -/
structure RoT (K : PySem.W.Frag) (kt : Cells) (ro ro' : Ro) : Prop where
  len : ro'.length = ro.length
  at' : ∀ (i : Nat) (w : W), ro'[i]? = some (some w) → ro[i]? = some (some w) ∨ ∃ (a : Addr) (d : D), w = W.val d ∧ ro[i]? = some (some (W.val (.adr a))) ∧ FrzD K kt a d
section
variable {K : PySem.W.Frag} {B F F0 H H' : Hp} {ro ro' : Ro} {ka k1 k2 k3 kr kt : Cells} {ta tb : List (V × W)} {sg sg' : L2.St} {te tf : TE} {tt : TT} {w x y : W} {n : Nd} {a : Addr} {d : D}
theorem RoT.refl : RoT K kt ro ro := ⟨rfl, fun _ _ h => .inl h⟩
theorem RoT.set {i : Nat} (r : RoT K kt ro ro') (hi : ro[i]? = some (some (.val (.adr a)))) (z : FrzD K kt a d) : RoT K kt ro (ro'.set i (some (.val d))) := ⟨by rw [List.length_set]; exact r.len, fun j w h => by
  rw [List.getElem?_set] at h
  split at h
  · rename_i e
    subst e
    split at h
    · cases h
      exact .inr ⟨a, d, rfl, hi, z⟩
    · cases h
  · exact r.at' j w h⟩
end
end DL

/-! EM: in and bool by an own class's methods; d.pop(k) (own work). -/
namespace DL
open PySem PySem.Spec PyProof.Rows L2 PySem.W
section
variable {X : Cx} {CX : CXT} {k : Nat} {C f : Addr} {fd : FuncData} {ps : List Str} {sp : Sp} {E : XK}
end
end DL
namespace DL
open PySem L2 PySem.W
section
variable {X : Cx} {k : Nat} {C f : Addr} {ps : List Str} {E : XK} {Ct' : Ct}
end
section
variable {K : PySem.W.Frag} {B F0 : Hp} {ro : Ro} {ka k1 k2 kr : Cells} {ta : List (V × W)} {te tf td ty : TE} {x y : W} {C a : Addr} {fs : List (Str × D)} {b : Bool} {E : XK} {De : Ends} {u : TS}
end
end DL
namespace DL
open PySem L2 PySem.W
/-- a def with defaults, called without them or with all -/
def FnE (P : Program) (w : World) (K : PySem.W.Frag) (mg : Str → Option Value) (base : Heap) (k : Nat) (f : Addr) (ps : List Str) (dvs : List V) (C : Ct) : Prop :=
  ∃ fd, FnOk P w K mg base (L2.CX P w) k f fd ps (spC K C) ∧ (∃ ds, Vals dvs ds ∧ Binds K fd ps ds) ∧ ∃ ds, Vals [] ds ∧ Binds K fd ps ds
section
variable {P : Program} {w : World} {K : PySem.W.Frag} {mg : Str → Option Value} {base : Heap} {k : Nat} {f : Addr} {ps N : List Str} {dvs : List V} {C : Ct} {x qual : Str} {params : Arguments} {body : List Stmt} {scope : Scope} {fd : FuncData}
theorem FnE.d (F : FnE P w K mg base k f ps dvs C) : FnD P w K mg base k f ps dvs C := let ⟨fd, a, b, _⟩ := F; ⟨fd, a, b⟩
theorem FnE.a (F : FnE P w K mg base k f ps dvs C) : Fn P w K mg base k f ps C := by
  obtain ⟨fd, a, _, ds, v, b⟩ := F
  cases v
  exact ⟨fd, a, b⟩
theorem fn_okE (F : FunD K x qual params body scope dvs [] f fd) (S : FnScope N ps scope) (hb : ∃ ds, Vals dvs ds ∧ Binds K fd ps ds) (hb2 : ∃ ds, Vals [] ds ∧ Binds K fd ps ds) (hl : ∀ ws ka out, C ws ka out → ws.length = ps.length)
    (h : ∀ (cdv : Value) (A : Around) (outer : List Env) (s : Shared) (H : Hp) (E : XK), Room k (A.deeper (PyProof.Rows.envOfC qual scope s.heap.objs.size f cdv)) →
      ∃ t, PSs (cxOf (L2.CX P w) P w K mg base N qual scope f cdv A outer s H E) body t ∧
        ∀ ws ka out B F0 Q, C ws ka out → RtOk K B F0 out Q → RxOk K B F0 out E → Gp K B F0 [] (t { nx := fun _ H' => Q .non H', rt := Q }) (ws.map some ++ List.replicate (N.length - ps.length) none) ka) : FnE P w K mg base (k + 1) f ps dvs C := by
  exact ⟨fd, fn_okG F S hl h, hb, hb2⟩
end
end DL
namespace DL
open PySem L2 PySem.W
/-- an own error that the law never raises: nothing is said of its __init__ -/
def spF : Sp := fun _ _ _ _ => False
structure Xf (P : Program) (w : World) (K : PySem.W.Frag) (mg : Str → Option Value) (base : Heap) (C : Addr) : Prop where
  xc : Xc K C
  ex : ∃ fI fd ps, findIn K (.ref C) "__init__" = some (some (.ref fI)) ∧ typeIn K (.ref fI) = some (.type "function") ∧ FnOk P w K mg base (L2.CX P w) 1 fI fd ps spF ∧ Binds K fd ps []
namespace Xf
variable {P : Program} {w : World} {K : PySem.W.Frag} {mg : Str → Option Value} {base : Heap} {C : Addr}
noncomputable def fI (Z : Xf P w K mg base C) : Addr := Classical.choose Z.ex
noncomputable def fd (Z : Xf P w K mg base C) : FuncData := Classical.choose (Classical.choose_spec Z.ex)
noncomputable def px (Z : Xf P w K mg base C) : List Str := Classical.choose (Classical.choose_spec (Classical.choose_spec Z.ex))
theorem all (Z : Xf P w K mg base C) : findIn K (.ref C) "__init__" = some (some (.ref Z.fI)) ∧ typeIn K (.ref Z.fI) = some (.type "function") ∧ FnOk P w K mg base (L2.CX P w) 1 Z.fI Z.fd Z.px spF ∧ Binds K Z.fd Z.px [] :=
  Classical.choose_spec (Classical.choose_spec (Classical.choose_spec Z.ex))
end Xf
end DL

/-! EN: any cells frozen for good, returns by a word, orders of cells (own work). -/
namespace DL
open PySem L2 PySem.W
section
variable {K : PySem.W.Frag} {B F F0 H : Hp} {ro ro' : Ro} {ka kb k1 k2 k3 kr kt : Cells} {ta : List (V × W)} {sg : L2.St} {te : TE} {tt : TT} {w : W} {n : Nd} {P : L2.St → Hp → Prop} {De : Ends} {b : Bool} {Q : W → Cells → Prop}
/-- a return of which a word tells -/
theorem g_retE {out : Oc} (hr : RtOk K B F0 out De.rt) (h : EvR K te ro ka Q) (o : ∀ w k, Q w k → ∃ d, w = .val d ∧ out (.ret d) k) : Gp K B F0 ta (tRet te De) ro ka := fun sg H e => h B F0 ta sg H _ e fun w k v H' q e' => by
  obtain ⟨d, rfl, ho⟩ := o w k q
  exact hr d k v H' ho e'.leave
theorem EvD.pm (h : EvD K te ro k1 w k2) (s1 : k1.Perm ka) (s2 : k2.Perm kb) : EvD K te ro ka w kb := fun B F0 ta sg H Q e q => h B F0 ta sg H Q (e.perm s1) fun v H' e' => q v H' (e'.perm s2.symm)
theorem EvT.pm (h : EvT K tt ro k1 b k2) (s1 : k1.Perm ka) (s2 : k2.Perm kb) : EvT K tt ro ka b kb := fun B F0 ta sg H Q e q => h B F0 ta sg H Q (e.perm s1) fun H' e' => q H' (e'.perm s2.symm)
theorem EvR.pm (h : EvR K te ro k1 Q) (s1 : k1.Perm ka) : EvR K te ro ka Q := fun B F0 ta sg H Q e q => h B F0 ta sg H Q (e.perm s1) q
theorem EvR.fr {P2 : W → Cells → Prop} (h : EvR K te ro k1 P2) (kr : Cells) (hP : ∀ w k, P2 w k → ∃ d, w = .val d) : EvR K te ro (k1 ++ kr) (fun w k => ∃ k0, P2 w k0 ∧ k = k0 ++ kr) := fun B F0 ta sg H Q e q => by
  obtain ⟨F, g, e⟩ := e
  refine h (off H k1) F [] sg H _ ⟨F, Gr.refl _ _, e.into e.ln (fun i w h => e.sl i w h) (fun p hp => by cases hp)⟩ fun w k v H' p e' => ?_
  obtain ⟨F', g', e'⟩ := e'
  obtain ⟨d, rfl⟩ := hP w k p
  obtain ⟨g2, e2⟩ := e.back g' e' (tb := (v, .val d) :: ta) fun p hp => by
    rcases List.mem_cons.mp hp with rfl | hp
    · exact .inr ⟨d, rfl, List.mem_cons_self⟩
    · exact .inl hp
  exact q _ _ v H' ⟨k, p, rfl⟩ ⟨F', g.trans g2, e2⟩
end
end DL
namespace DL
open PySem L2 PySem.W
section
variable {K : PySem.W.Frag} {ro : Ro} {ka k1 k2 : Cells} {ty td : TE} {P : W → Cells → Prop}
end
end DL
namespace DL
open PySem L2 PySem.W
section
variable {K : PySem.W.Frag} {B F0 : Hp} {ro : Ro} {ka k1 k2 : Cells} {ta : List (V × W)} {tt tu : TT} {De : Ends} {t t' u : TS} {R : Bool → Cells → Prop} {a b : Bool}
end
end DL
namespace DL
open PySem L2 PySem.W
section
variable {K : PySem.W.Frag} {ro : Ro} {ka k1 k2 : Cells} {te : TE} {tr : TA} {C C1 : Addr} {gs : List (Str × D)} {E : XK} {ws : List W} {Cc : Ct}
/-- C(..) raises -/
theorem evx_mk {E' : XK} (ha : EvA K tr ro ka ws k1) (hC : ∀ a, Cc (.val (.adr a) :: ws) (k1 ++ [(a, .ins C [])]) (Xt C1 gs k2)) (hE : E' = E) : EvX K (tMake C (spC K Cc) [] E' tr) ro ka E C1 gs k2 := fun B F0 ta sg H Q e q => by
  subst hE
  exact evx_make ha (fun a => ⟨_, hC a, fun _ _ z => z⟩) e q
theorem evx0_mk {E' : XK} (ha : EvA K tr ro ka ws k1) (hC : ∀ a, Cc (.val (.adr a) :: ws) (k1 ++ [(a, .ins C [])]) (X0 C1 k2)) (hE : E' = E) : EvX0 K (tMake C (spC K Cc) [] E' tr) ro ka E C1 k2 := fun B F0 ta sg H Q e q => by
  subst hE
  refine ha B F0 ta sg H _ e fun vs H1 hl e1 => ?_
  intro x dx hx hd hne
  rw [List.append_nil]
  obtain ⟨F, g, e1⟩ := e1
  obtain ⟨e2, g2⟩ := e1.lay (o := .own x) hd rfl
  have hx2 : upd H1 dx (.own x) x = none := by rw [upd_ne (Ne.symm hne)]; exact hx
  have e3 := e2.cell (o := .ins C dx []) hx2 (n := .ins C []) ⟨dx, [], upd_same, rfl⟩
  have e4 := e3.push (v := .ref x) (w := .val (.adr x)) rfl
  have e5 : En K B F0 ro ((k1 ++ [(x, .ins C [])]) ++ []) ((V.ref x :: vs).zip (W.val (.adr x) :: ws) ++ ta) sg (upd (upd H1 dx (.own x)) x (.ins C dx [])) := by
    rw [List.append_nil]
    exact ⟨_, g.trans g2, e4⟩
  refine sp_exc0 e5 (by rw [List.length_cons, List.length_cons, hl]) (hC x) (fun _ _ z => z) fun H' e6 => ?_
  rw [List.append_nil] at e6
  exact q H' e6
end
end DL
namespace DL
open PySem L2 PySem.W
section
variable {K : PySem.W.Frag} {ro : Ro} {ka k1 k2 : Cells} {te : TE} {tt : TT} {C : Addr} {fs : List (Str × D)} {b : Bool} {w : W} {E : XK} {Cc : Ct} {P : W → Cells → Prop} {R : Bool → Cells → Prop}
end
end DL


/-! EP: comprehensions over pairs; isinstance of several types (own work). -/
namespace DL
open PySem L2 PySem.W
section
variable {K : PySem.W.Frag} {B F F0 : Hp} {ro : Ro} {ka k1 : Cells} {ta : List (V × W)} {sg : L2.St} {H : Hp} {te : TE} {tt : TT} {d1 d2 : D} {j l : Nat}
end
section
variable {K : PySem.W.Frag} {ro : Ro} {ka k1 k2 : Cells} {te tf : TE} {w : W}
/-- the type of what w stands for, wherever it is asked -/
def TwX (K : PySem.W.Frag) (ka : Cells) (w : W) (t : Value) : Prop := ∀ B F0 ro ta sg H v, En K B F0 ro ka ta sg H → (v, w) ∈ ta → TyX K H v t
theorem Tw.x {t : Value} (l : Tw K ka w t) : TwX K ka w t := fun _ _ _ _ _ _ _ e h => l.at e h
end
end DL
namespace DL
open PySem L2 PySem.W
theorem evn_filt_to {K : PySem.W.Frag} {ro : Ro} {ka k1 : Cells} {te : TE} {ds es : List D} (h : EvN K te ro ka (.lst ds) k1) (e : ds = es) : EvN K te ro ka (.lst es) k1 := e ▸ h
end DL
namespace DL
open PySem L2 PySem.W
section
variable {K : PySem.W.Frag} {ro : Ro} {ka k1 k2 : Cells} {te : TE} {tr : TA} {w : W} {C C1 : Addr} {fs : List (Str × D)} {b : Bool} {E : XK} {Cc : Ct} {ws : List W}
end
end DL

/-! EQ: for over a list of which a word tells (own work). -/
namespace DL
open PySem L2 PySem.W
section
variable {K : PySem.W.Frag} {B F F0 : Hp} {ro : Ro} {ka k1 k2 k3 kr : Cells} {ta : List (V × W)} {sg : L2.St} {H H' : Hp} {te tf tg : TE} {w x y z : W} {n : Nd} {P P2 : W → Cells → Prop} {De : Ends} {u : TS} {r : R2}
/-- o.m(..) raises, the net's cells in hand -/
theorem evx_meth {m : Str} {E E' : XK} {C C1 : Addr} {fs gs : List (Str × D)} {b : Bool} {Cc : Ct} {ws : List W} {tr : TA} (kr : Cells) (h : EvD K te ro ka w k1) (l : Io k1 w C fs b) (hm : fs.lookup m = none) (ha : EvA K tr ro k1 ws (k2 ++ kr)) (hC : Cc (w :: ws) k2 (Xt C1 gs k3)) (hE : E' = E) : EvX K (tMeth C m (spC K Cc) [] E' te tr) ro ka E C1 gs (k3 ++ kr) := fun B F0 ta sg H Q e q => by
  subst hE
  refine h B F0 ta sg H _ e fun v H1 e1 => ?_
  obtain ⟨F, g, ef⟩ := id e1
  obtain ⟨a, dx, xs, rfl, ha1, rx⟩ := l.get ef (ef.tm _ List.mem_cons_self)
  refine ⟨a, dx, xs, rfl, ha1, rpf_none rx hm, ha B F0 _ sg H1 _ e1 fun vs H2 hl e2 => ?_⟩
  rw [List.append_nil]
  refine sp_exc (ws := w :: ws) (vs := .ref a :: vs) (kr := kr) (ta := ta) (e2.held fun p hp => ?_) (by rw [List.length_cons, List.length_cons, hl]) hC (fun _ _ z => z) fun dx H' e3 => q dx H' (e3.perm ?_)
  · have hp' : p ∈ (V.ref a, w) :: (vs.zip ws ++ ta) := hp
    rcases List.mem_cons.mp hp' with rfl | hp
    · exact List.mem_append_right _ List.mem_cons_self
    · rcases List.mem_append.mp hp with hp | hp
      · exact List.mem_append_left _ hp
      · exact List.mem_append_right _ (List.mem_cons_of_mem _ hp)
  · rw [List.append_assoc, List.append_assoc]
    exact List.Perm.append_left _ List.perm_append_comm
end
end DL

/-! ES: what the courses' laws want (own work). -/
namespace DL
open PySem L2 PySem.W
/-- a reading that knows the slots it is asked at -/
def tAtS (f : L2.St → TE) : TE := fun sg H Q => f sg sg H Q
/-! an object made where the wish of an exception may speak of the slots -/
section
variable {X : Cx} {CX : CXT} {k : Nat} {C f : Addr} {fd : FuncData} {ps : List Str} {sp : Sp} {dvs : List V} {ds : List Value}
end
section
variable {K : PySem.W.Frag} {B F0 : Hp} {ro : Ro} {ka k1 k2 k3 : Cells} {ta : List (V × W)} {te tf tg : TE} {tt : TT} {De : Ends} {t u : TS} {w x y : W}
/-- a slice of a list told by a word -/
theorem evr_slL {tl th : TO} {P P2 : W → Cells → Prop} (h : EvR K te ro ka P) (hP : ∀ w k, P w k → ∃ (ds : List D) (lo hi : Option Int) (k2 k3 : Cells), w = .val (.lst ds) ∧ EvO K tl ro k lo k2 ∧ EvO K th ro k2 hi k3 ∧ P2 (.val (.lst (cutD ds lo hi))) k3) : EvR K (tSl (rSlU K) te tl th) ro ka P2 := fun B F0 ta sg H Q e q =>
  h B F0 ta sg H _ e fun w k u H1 p e1 => by
    obtain ⟨ds, lo, hi, k2, k3, rfl, h1, h2, p2⟩ := hP w k p
    refine h1 B F0 _ sg H1 _ e1 fun H2 e2 => h2 B F0 _ sg H2 _ e2 fun H3 e3 => ?_
    obtain ⟨F, g, e3⟩ := e3
    obtain ⟨a, xs, rfl, s1, s2⟩ := Lk.vl.get e3 (e3.tm _ List.mem_cons_self)
    refine .inl ⟨a, xs, rfl, .inl s1, fun p hp => q _ _ _ _ p2 (En.freeze_l ?_)⟩
    exact ⟨F, g, (e3.cell (o := .lst (cutV xs lo hi)) hp (n := .lst (cutD ds lo hi)) ⟨_, upd_same, rpl_cut s2 lo hi⟩).held fun p hp => List.mem_cons_of_mem _ hp⟩
/-- .. the slots are known in the clause -/
theorem g_dropXS {c : Value} {i : Nat} {ts : Addr → Value → Option Addr → TS} {Wout : WX} {De' : Ends} {C1 : Addr} {gs : List (Str × D)} {tf : L2.St → TE} (h : ∀ sg, EvX K (tf sg) ro ka (WE (wAs K c i ts Wout De) sg) C1 gs k2) (hx : exmOne K (.ref C1) c = some true)
    (hs : ∀ a dx, Gp K B F0 ta (ts a (.ref C1) (some dx) { nx := fun σ' H' => De.nx (σ'.set i none) H', rt := De.rt, bk := fun σ' H' => De.bk (σ'.set i none) H', ct := fun σ' H' => De.ct (σ'.set i none) H' }) (ro.set i (some (.val (.adr a)))) (k2 ++ [(dx, .xd gs)])) : Gp K B F0 ta (tDrop (tAtS tf) De') ro ka := fun sg H e =>
  h sg B F0 ta sg H _ e fun dx H' e' => ⟨true, hx, fun _ a _ => hs a dx _ _ (e'.setA i a), fun z => by cases z⟩
/-- arguments told by a word -/
def EvAR (K : PySem.W.Frag) (tr : TA) (ro : Ro) (ka : Cells) (R : List W → Cells → Prop) : Prop := ∀ B F0 ta sg H (Q : List V → Hp → Prop), En K B F0 ro ka ta sg H → (∀ ws k vs H', R ws k → vs.length = ws.length → En K B F0 ro k (vs.zip ws ++ ta) sg H' → Q vs H') → tr sg H Q
theorem EvA.toR {tr : TA} {ws : List W} (h : EvA K tr ro ka ws k1) : EvAR K tr ro ka (fun ws' k => ws' = ws ∧ k = k1) := fun B F0 ta sg H Q e q => h B F0 ta sg H _ e fun vs H' hl e' => q ws k1 vs H' ⟨rfl, rfl⟩ hl e'
theorem EvAR.imp {tr : TA} {R R2 : List W → Cells → Prop} (h : EvAR K tr ro ka R) (i : ∀ ws k, R ws k → R2 ws k) : EvAR K tr ro ka R2 := fun B F0 ta sg H Q e q => h B F0 ta sg H Q e fun ws k vs H' r => q ws k vs H' (i ws k r)
/-- what raises lets the def end so -/
theorem g_dropP {out : Oc} {E : XK} {C1 : Addr} {gs : List (Str × D)} (hX : RxOk K B F0 out E) (h : EvX K te ro ka E C1 gs k2) (o : out (.exc C1 gs) k2) : Gp K B F0 ta (tDrop te De) ro ka := fun sg H e => h B F0 ta sg H _ e fun dx H' e' => hX.1 C1 gs k2 dx H' o e'.leaveX
theorem q_dropP {out : Oc} {E : XK} {C1 : Addr} {gs : List (Str × D)} (hX : RxOk K B F0 out E) (h : EvX K te ro ka E C1 gs k2) (o : out (.exc C1 gs) k2) : Gp K B F0 ta (tSeq (tDrop te) u De) ro ka := g_dropP (De := { De with nx := u De }) hX h o
theorem g_asgP {g : TG} {out : Oc} {E : XK} {C1 : Addr} {gs : List (Str × D)} (hX : RxOk K B F0 out E) (h : EvX K te ro ka E C1 gs k2) (o : out (.exc C1 gs) k2) : Gp K B F0 ta (tAsg te g De) ro ka := fun sg H e => h B F0 ta sg H _ e fun dx H' e' => hX.1 C1 gs k2 dx H' o e'.leaveX
theorem q_asgP {g : TG} {out : Oc} {E : XK} {C1 : Addr} {gs : List (Str × D)} (hX : RxOk K B F0 out E) (h : EvX K te ro ka E C1 gs k2) (o : out (.exc C1 gs) k2) : Gp K B F0 ta (tSeq (tAsg te g) u De) ro ka := g_asgP (De := { De with nx := u De }) hX h o
theorem EvR.rp {P P2 : W → Cells → Prop} (h : EvR K te ro ka P) (hP : ∀ w k, P w k → ∃ k', P2 w k' ∧ k'.Perm k) : EvR K te ro ka P2 := fun B F0 ta sg H Q e q => h B F0 ta sg H Q e fun w k v H' p e' =>
  let ⟨k', p2, s⟩ := hP w k p
  q w k' v H' p2 (e'.perm s)
theorem g_dropR {P : W → Cells → Prop} (h : EvR K te ro ka P) (k : ∀ w k1, P w k1 → Gp K B F0 ta De.nx ro k1) : Gp K B F0 ta (tDrop te De) ro ka := fun sg H e => h B F0 ta sg H _ e fun w k1 v H1 p e1 => k w k1 p _ _ e1.pop
/-- an object made, cells beside -/
theorem evr_makeF {tr : TA} {Cc : Ct} {C : Addr} {ws wd : List W} {dvs : List V} {E : XK} {P : W → Cells → Prop} (kr : Cells) (ha : EvA K tr ro ka ws (k1 ++ kr)) (hd : DvOk K dvs wd)
    (hC : ∀ a, ∃ out, Cc (.val (.adr a) :: (ws ++ wd)) (k1 ++ [(a, .ins C [])]) out ∧ ∀ o k, out o k → o = .ret .non ∧ P (.val (.adr a)) (k ++ kr)) : EvR K (tMake C (spC K Cc) dvs E tr) ro ka P := fun B F0 ta sg H Q e q =>
  ha B F0 ta sg H _ e fun vs H1 hl e1 => by
    intro x dx hx hdx hne
    obtain ⟨F, g, e1⟩ := e1
    obtain ⟨e2, g2⟩ := e1.lay (o := .own x) hdx rfl
    have hx2 : upd H1 dx (.own x) x = none := by rw [upd_ne (Ne.symm hne)]; exact hx
    have e3 := e2.cell (o := .ins C dx []) hx2 (n := .ins C []) ⟨dx, [], upd_same, rfl⟩
    obtain ⟨out, hC, ho⟩ := hC x
    have e4 : En K B F0 ro ((k1 ++ [(x, .ins C [])]) ++ kr) (dvs.zip wd ++ (vs.zip ws ++ ta)) sg (upd (upd H1 dx (.own x)) x (.ins C dx [])) := by
      refine En.perm (En.more ⟨_, g.trans g2, e3⟩ hd) ?_
      rw [List.append_assoc, List.append_assoc]
      exact List.Perm.append_left _ List.perm_append_comm
    have hlen : (V.ref x :: (vs ++ dvs)).length = (W.val (.adr x) :: (ws ++ wd)).length := by rw [List.length_cons, List.length_cons, List.length_append, List.length_append, hl, hd.1]
    have hz : (V.ref x :: (vs ++ dvs)).zip (W.val (.adr x) :: (ws ++ wd)) = (V.ref x, W.val (.adr x)) :: (vs.zip ws ++ dvs.zip wd) := by rw [List.zip_cons_cons, List.zip_append hl]
    have e5 : En K B F0 ro ((k1 ++ [(x, .ins C [])]) ++ kr) ((V.ref x :: (vs ++ dvs)).zip (W.val (.adr x) :: (ws ++ wd)) ++ ta) sg (upd (upd H1 dx (.own x)) x (.ins C dx [])) := by
      rw [hz]
      refine (e4.push_imm (v := .ref x) (w := .val (.adr x)) fun _ => rfl).held fun p hp => ?_
      rcases List.mem_cons.mp hp with rfl | hp
      · exact List.mem_cons_self
      · refine List.mem_cons_of_mem _ ?_
        rcases List.mem_append.mp hp with hp | hp
        · rcases List.mem_append.mp hp with hp | hp
          · exact List.mem_append_right _ (List.mem_append_left _ hp)
          · exact List.mem_append_left _ hp
        · exact List.mem_append_right _ (List.mem_append_right _ hp)
    refine sp_rel (kr := kr) e5 hlen hC (fun o k h => ⟨_, (ho o k h).1⟩) fun d k2 v H' o e6 => ?_
    obtain ⟨he, p⟩ := ho _ _ o
    cases he
    exact ⟨e6.tm_non List.mem_cons_self, q _ _ (.ref x) H' p (e6.pop.push_imm fun _ => rfl)⟩
end
section
variable {P : Program} {w : World} {K : PySem.W.Frag} {mg : Str → Option Value} {base : Heap} {k : Nat} {x qual : Str} {N ps : List Str} {params : Arguments} {body : List Stmt} {scope : Scope} {f : Addr} {fd : FuncData} {C : Ct}
/-- a contract that nothing meets (a def that calls itself, at depth 0) -/
theorem fn_vac (F : FunD K x qual params body scope [] [] f fd) (S : FnScope N ps scope)
    (hb : ∀ (kV doc pm : Value) (an : Option Addr) (cdv ct : Value) (us : List Value), us.length = ps.length → bindArgs (PySem.W.fnOf x qual params body scope .none kV doc pm an cdv ct) ⟨us, []⟩ = pure (ps.zip us))
    (h : ∀ ws ka out, ¬ C ws ka out) : Fn P w K mg base (k + 1) f ps C :=
  ⟨fd, F.ok S (fun _ _ _ _ z => by obtain ⟨_, _, _, _, _, c, _⟩ := z; exact absurd c (h _ _ _)) (fun _ _ _ _ _ _ _ _ _ z => by obtain ⟨_, _, _, _, _, c, _⟩ := z; exact absurd c (h _ _ _)), F.bindsN hb⟩
end
section
variable {K : PySem.W.Frag} {B F0 : Hp} {ro : Ro} {ka k1 k2 k3 : Cells} {te tf : TE} {w : W}
theorem list_snoc_ind {α : Type} {P : List α → Prop} (nil : P []) (snoc : ∀ (xs : List α) (x : α), P xs → P (xs ++ [x])) (xs : List α) : P xs := by
  have key : ∀ ys : List α, P ys.reverse := by
    intro ys
    induction ys with
    | nil => exact nil
    | cons y ys ih => rw [List.reverse_cons]; exact snoc _ _ ih
  have := key xs.reverse
  rwa [List.reverse_reverse] at this
end
def Ct6 (R : W → W → W → W → W → W → Cells → Oc → Prop) : Ct := fun ws ka out => ∃ a b c d e f, ws = [a, b, c, d, e, f] ∧ R a b c d e f ka out
theorem ct6_len {R} : ∀ ws ka out, Ct6 R ws ka out → ws.length = 6 := fun _ _ _ ⟨_, _, _, _, _, _, h, _⟩ => by rw [h]; rfl
end DL

/-! EU: lanes joined along a search for a way that joins one more (own work): plain lists. -/
namespace DL
open PySem L2 PySem.W
/-! a table of texts -/
abbrev Tb := List (Str × Str)
def getS (fo : Tb) (o : Str) : Option Str := (fo.find? fun p => decide (p.1 = o)).map (·.2)
def putS (fo : Tb) (o u : Str) : Tb := if o ∈ fo.map (·.1) then fo.map fun p => if p.1 = o then (o, u) else p else fo ++ [(o, u)]
theorem getS_some {fo : Tb} {o w : Str} (h : getS fo o = some w) : (o, w) ∈ fo := by
  unfold getS at h
  obtain ⟨p, h1, rfl⟩ := Option.map_eq_some_iff.mp h
  have h2 := List.find?_some h1
  have h3 := of_decide_eq_true h2
  subst h3
  exact List.mem_of_find?_eq_some h1
theorem getS_none {fo : Tb} {o : Str} : getS fo o = none ↔ ¬ o ∈ fo.map (·.1) := by
  unfold getS
  rw [Option.map_eq_none_iff, List.find?_eq_none]
  constructor
  · intro h z
    obtain ⟨p, h1, rfl⟩ := List.mem_map.mp z
    exact h p h1 (decide_eq_true rfl)
  · intro h p hp z
    exact h (List.mem_map.mpr ⟨p, hp, of_decide_eq_true z⟩)
theorem getS_mem {fo : Tb} (hn : (fo.map (·.1)).Nodup) {o w : Str} (h : (o, w) ∈ fo) : getS fo o = some w := by
  cases hg : getS fo o with
  | none => exact absurd (List.mem_map.mpr ⟨_, h, rfl⟩) (getS_none.mp hg)
  | some v =>
    have h2 := getS_some hg
    induction fo with
    | nil => cases h
    | cons p l ih =>
      have hn2 := List.nodup_cons.mp hn
      rcases List.mem_cons.mp h with e1 | h1
      · rcases List.mem_cons.mp h2 with e2 | h3
        · rw [← e1] at e2
          cases e2; rfl
        · exact absurd (List.mem_map.mpr ⟨(o, v), h3, by rw [← e1]⟩ : p.1 ∈ l.map (·.1)) hn2.1
      · rcases List.mem_cons.mp h2 with e2 | h3
        · exact absurd (List.mem_map.mpr ⟨(o, w), h1, by rw [← e2]⟩ : p.1 ∈ l.map (·.1)) hn2.1
        · have e : getS (p :: l) o = getS l o := by
            have ne : ¬ p.1 = o := fun z => hn2.1 (List.mem_map.mpr ⟨(o, w), h1, z.symm⟩)
            unfold getS
            rw [List.find?_cons_of_neg (by simp [ne])]
          rw [e] at hg
          exact ih hn2.2 h1 hg h3
theorem putS_keys {fo : Tb} {o u : Str} : (putS fo o u).map (·.1) = if o ∈ fo.map (·.1) then fo.map (·.1) else fo.map (·.1) ++ [o] := by
  unfold putS
  split
  · rw [List.map_map]
    refine List.map_congr_left fun p _ => ?_
    show (if p.1 = o then (o, u) else p).1 = p.1
    split
    · rename_i h; exact h.symm
    · rfl
  · rw [List.map_append]; rfl
theorem putS_nd {fo : Tb} {o u : Str} (hn : (fo.map (·.1)).Nodup) : ((putS fo o u).map (·.1)).Nodup := by
  rw [putS_keys]
  split
  · exact hn
  · rename_i h
    rw [List.nodup_append]
    exact ⟨hn, List.nodup_cons.mpr ⟨List.not_mem_nil, List.nodup_nil⟩, fun x hx y hy z => h (by rw [List.mem_singleton.mp hy] at z; rw [← z]; exact hx)⟩
theorem putS_has {fo : Tb} {o u x : Str} : x ∈ (putS fo o u).map (·.1) ↔ x = o ∨ x ∈ fo.map (·.1) := by
  rw [putS_keys]
  split
  · rename_i h
    constructor
    · exact .inr
    · rintro (rfl | h2)
      · exact h
      · exact h2
  · rw [List.mem_append, List.mem_singleton]
    exact Or.comm
theorem putS_mem {fo : Tb} {o u x w : Str} (h : (x, w) ∈ putS fo o u) : (x = o ∧ w = u) ∨ (x, w) ∈ fo := by
  unfold putS at h
  split at h
  · obtain ⟨p, h1, h2⟩ := List.mem_map.mp h
    split at h2
    · cases h2; exact .inl ⟨rfl, rfl⟩
    · rw [← h2]; exact .inr h1
  · rcases List.mem_append.mp h with h | h
    · exact .inr h
    · cases List.mem_singleton.mp h; exact .inl ⟨rfl, rfl⟩
theorem getS_other {fo : Tb} {o u x : Str} (h : x ≠ o) : getS (putS fo o u) x = getS fo x := by
  unfold getS putS
  split
  · have key : ∀ l : Tb, ((l.map fun p => if p.1 = o then (o, u) else p).find? fun p => decide (p.1 = x)).map (·.2) = (l.find? fun p => decide (p.1 = x)).map (·.2) := by
      intro l
      induction l with
      | nil => rfl
      | cons p l ih =>
        rw [List.map_cons]
        by_cases e : p.1 = o
        · rw [if_pos e, List.find?_cons_of_neg (by simp [Ne.symm h]), List.find?_cons_of_neg (by rw [e]; simp [Ne.symm h])]
          exact ih
        · rw [if_neg e]
          by_cases e2 : p.1 = x
          · rw [List.find?_cons_of_pos (by simp [e2]), List.find?_cons_of_pos (by simp [e2])]
          · rw [List.find?_cons_of_neg (by simp [e2]), List.find?_cons_of_neg (by simp [e2])]
            exact ih
    exact key fo
  · rw [List.find?_append]
    have : ([(o, u)] : Tb).find? (fun p => decide (p.1 = x)) = none := by rw [List.find?_cons_of_neg (by simp [Ne.symm h])]; rfl
    rw [this, Option.or_none]
/-- the values behind a put -/
theorem putS_vals {fo : Tb} {o u w : Str} (hn : (fo.map (·.1)).Nodup) (h : getS fo o = some w) : (w :: (putS fo o u).map (·.2)).Perm (u :: fo.map (·.2)) := by
  have hm := getS_some h
  have hk : o ∈ fo.map (·.1) := List.mem_map.mpr ⟨_, hm, rfl⟩
  unfold putS
  rw [if_pos hk]
  clear h hk
  induction fo with
  | nil => cases hm
  | cons p l ih =>
    have hn2 := List.nodup_cons.mp hn
    rcases List.mem_cons.mp hm with e | hm
    · subst e
      rw [List.map_cons, List.map_cons, List.map_cons, if_pos rfl]
      have e2 : (l.map fun p => if p.1 = o then (o, u) else p) = l := by
        have : ∀ q ∈ l, (if q.1 = o then (o, u) else q) = q := fun q hq => if_neg fun z => hn2.1 (List.mem_map.mpr ⟨q, hq, z⟩)
        exact (List.map_congr_left this).trans (List.map_id _)
      rw [e2]
      exact List.Perm.swap _ _ _
    · have ne : ¬ p.1 = o := fun z => hn2.1 (List.mem_map.mpr ⟨_, hm, z.symm⟩)
      rw [List.map_cons, List.map_cons, List.map_cons, if_neg ne]
      exact (List.Perm.swap _ _ _).trans (((ih hn2.2 hm).cons _).trans (List.Perm.swap _ _ _))
theorem putS_valsN {fo : Tb} {o u : Str} (h : getS fo o = none) : (putS fo o u).map (·.2) = fo.map (·.2) ++ [u] := by
  unfold putS
  rw [if_neg (getS_none.mp h), List.map_append]
  rfl
/-! the search -/
structure Js where
  fo : Tb
  tr : List Str
def augL (rec : Str → Js → Bool × Js) (u : Str) : List Str → Js → Bool × Js
  | [], s => (false, s)
  | o :: os, s => if o ∈ s.tr then augL rec u os s else
    match getS s.fo o with
    | none => (true, ⟨putS s.fo o u, s.tr ++ [o]⟩)
    | some w => match rec w ⟨s.fo, s.tr ++ [o]⟩ with
      | (true, s2) => (true, ⟨putS s2.fo o u, s2.tr⟩)
      | (false, s2) => augL rec u os s2
def aug (bh : Str → List Str) : Nat → Str → Js → Bool × Js
  | 0, _, s => (false, s)
  | n + 1, u, s => augL (aug bh n) u (bh u) s
/-- what a search leaves: what was tried stays; tried ones keep their place; without success all stays -/
structure Ag (s : Js) (r : Bool × Js) : Prop where
  tr : ∀ x ∈ s.tr, x ∈ r.2.tr
  keep : ∀ x ∈ s.tr, getS r.2.fo x = getS s.fo x
  fail : r.1 = false → r.2.fo = s.fo
  nd : (s.fo.map (·.1)).Nodup → (r.2.fo.map (·.1)).Nodup
theorem ag_L {rec : Str → Js → Bool × Js} (hr : ∀ w s, Ag s (rec w s)) (u : Str) : ∀ (os : List Str) (s : Js), Ag s (augL rec u os s)
  | [], s => ⟨fun _ h => h, fun _ _ => rfl, fun _ => rfl, fun h => h⟩
  | o :: os, s => by
    unfold augL
    split
    · exact ag_L hr u os s
    · rename_i hno
      split
      · exact ⟨fun x h => List.mem_append_left _ h, fun x h => getS_other fun z => hno (by rw [← z]; exact h), fun z => (by cases z), putS_nd⟩
      · rename_i w hw
        have a := hr w ⟨s.fo, s.tr ++ [o]⟩
        split
        · rename_i s2 e
          rw [e] at a
          refine ⟨fun x h => a.tr x (List.mem_append_left _ h), fun x h => ?_, fun z => (by cases z), fun h => putS_nd (a.nd h)⟩
          exact (getS_other fun z => hno (by rw [← z]; exact h)).trans (a.keep x (List.mem_append_left _ h))
        · rename_i s2 e
          rw [e] at a
          have b := ag_L hr u os s2
          refine ⟨fun x h => b.tr x (a.tr x (List.mem_append_left _ h)), fun x h => (b.keep x (a.tr x (List.mem_append_left _ h))).trans (a.keep x (List.mem_append_left _ h)), fun z => (b.fail z).trans (a.fail rfl), fun h => b.nd (a.nd h)⟩
theorem ag_all (bh : Str → List Str) : ∀ (n : Nat) (u : Str) (s : Js), Ag s (aug bh n u s)
  | 0, u, s => ⟨fun _ h => h, fun _ _ => rfl, fun _ => rfl, fun h => h⟩
  | n + 1, u, s => ag_L (ag_all bh n) u (bh u) s
/-- success: u has a place more -/
theorem aug_vals (bh : Str → List Str) : ∀ (n : Nat) (u : Str) (s s' : Js), (s.fo.map (·.1)).Nodup → aug bh n u s = (true, s') → (s'.fo.map (·.2)).Perm (u :: s.fo.map (·.2))
  | 0, u, s, s', _, h => by cases h
  | n + 1, u, s, s', hn, h => by
    have key : ∀ (os : List Str) (s : Js), (s.fo.map (·.1)).Nodup → augL (aug bh n) u os s = (true, s') → (s'.fo.map (·.2)).Perm (u :: s.fo.map (·.2)) := by
      intro os
      induction os with
      | nil => intro s _ h; cases h
      | cons o os ih =>
        intro s hn h
        unfold augL at h
        split at h
        · exact ih s hn h
        · split at h
          · rename_i hg
            cases h
            show ((putS s.fo o u).map (·.2)).Perm _
            rw [putS_valsN hg]
            exact List.perm_append_comm
          · rename_i w hw
            have a := ag_all bh n w ⟨s.fo, s.tr ++ [o]⟩
            split at h
            · rename_i s2 e
              cases h
              have ihv := aug_vals bh n w ⟨s.fo, s.tr ++ [o]⟩ _ hn e
              rw [e] at a
              have hk : getS s2.fo o = some w := (a.keep o (List.mem_append_right _ (List.mem_singleton.mpr rfl))).trans hw
              have p1 := putS_vals (u := u) (a.nd hn) hk
              exact (List.Perm.cons_inv (a := w) (p1.trans ((ihv.cons u).trans (List.Perm.swap _ _ _))))
            · rename_i s2 e
              rw [e] at a
              have hf : s2.fo = s.fo := a.fail rfl
              have := ih s2 (a.nd hn) h
              rwa [hf] at this
    exact key _ _ hn h
/-- all pairs are of the relation -/
theorem aug_edge {bh : Str → List Str} : ∀ (n : Nat) (u : Str) (s : Js), (∀ p ∈ s.fo, p.1 ∈ bh p.2) → ∀ p ∈ (aug bh n u s).2.fo, p.1 ∈ bh p.2
  | 0, u, s, h => h
  | n + 1, u, s, h => by
    have key : ∀ (os : List Str) (s : Js), (∀ o ∈ os, o ∈ bh u) → (∀ p ∈ s.fo, p.1 ∈ bh p.2) → ∀ p ∈ (augL (aug bh n) u os s).2.fo, p.1 ∈ bh p.2 := by
      intro os
      induction os with
      | nil => intro s _ h; exact h
      | cons o os ih =>
        intro s hos h
        have put : ∀ fo : Tb, (∀ p ∈ fo, p.1 ∈ bh p.2) → ∀ p ∈ putS fo o u, p.1 ∈ bh p.2 := fun fo hf p hp => by
          rcases putS_mem (x := p.1) (w := p.2) hp with ⟨e1, e2⟩ | hp
          · rw [e1, e2]; exact hos o List.mem_cons_self
          · exact hf _ hp
        unfold augL
        split
        · exact ih s (fun x hx => hos x (List.mem_cons_of_mem _ hx)) h
        · split
          · exact put _ h
          · rename_i w hw
            have hr := aug_edge n w ⟨s.fo, s.tr ++ [o]⟩ h
            split
            · rename_i s2 e
              rw [e] at hr
              exact put _ hr
            · rename_i s2 e
              rw [e] at hr
              exact ih s2 (fun x hx => hos x (List.mem_cons_of_mem _ hx)) hr
    exact key _ _ (fun _ h => h) h
/-- T is closed: each of T has a place, and what is behind that one is in T -/
def Cl (bh : Str → List Str) (fo : Tb) (T : List Str) : Prop := ∀ o ∈ T, ∃ w, getS fo o = some w ∧ ∀ x ∈ bh w, x ∈ T
/-- no search leaves a closed set -/
theorem aug_cl {bh : Str → List Str} {T : List Str} : ∀ (n : Nat) (u : Str) (s : Js), Cl bh s.fo T → (∀ x ∈ bh u, x ∈ T) → (aug bh n u s).1 = false
  | 0, u, s, _, _ => rfl
  | n + 1, u, s, hc, hu => by
    have key : ∀ (os : List Str) (s : Js), (∀ o ∈ os, o ∈ T) → Cl bh s.fo T → (augL (aug bh n) u os s).1 = false := by
      intro os
      induction os with
      | nil => intro s _ _; rfl
      | cons o os ih =>
        intro s hos hc
        have hos2 : ∀ x ∈ os, x ∈ T := fun x hx => hos x (List.mem_cons_of_mem _ hx)
        obtain ⟨w, hw, hb⟩ := hc o (hos o List.mem_cons_self)
        unfold augL
        rw [hw]
        dsimp only
        split
        · exact ih s hos2 hc
        · have hr := aug_cl n w ⟨s.fo, s.tr ++ [o]⟩ hc hb
          have a := ag_all bh n w ⟨s.fo, s.tr ++ [o]⟩
          split
          · rename_i s2 e
            rw [e] at hr
            cases hr
          · rename_i s2 e
            rw [e] at a
            exact ih s2 hos2 (by rw [a.fail rfl]; exact hc)
    exact key _ _ hu hc
theorem aug_keepT {bh : Str → List Str} {T : List Str} : ∀ (n : Nat) (u : Str) (s : Js), Cl bh s.fo T → ∀ o ∈ T, getS (aug bh n u s).2.fo o = getS s.fo o
  | 0, u, s, _, _, _ => rfl
  | n + 1, u, s, hc, t, ht => by
    have key : ∀ (os : List Str) (s : Js), Cl bh s.fo T → getS (augL (aug bh n) u os s).2.fo t = getS s.fo t := by
      intro os
      induction os with
      | nil => intro s _; rfl
      | cons o os ih =>
        intro s hc
        unfold augL
        split
        · exact ih s hc
        · split
          · rename_i hg
            refine getS_other fun z => ?_
            subst z
            obtain ⟨w, hw, _⟩ := hc t ht
            rw [hg] at hw
            cases hw
          · rename_i w hw
            have hk := aug_keepT n w ⟨s.fo, s.tr ++ [o]⟩ hc t ht
            have a := ag_all bh n w ⟨s.fo, s.tr ++ [o]⟩
            split
            · rename_i s2 e
              rw [e] at hk
              refine (getS_other fun z => ?_).trans hk
              subst z
              obtain ⟨w', hw', hb⟩ := hc t ht
              rw [hw] at hw'
              cases hw'
              have := aug_cl n w ⟨s.fo, s.tr ++ [t]⟩ hc hb
              rw [e] at this
              cases this
            · rename_i s2 e
              rw [e] at a hk
              rw [ih s2 (by rw [a.fail rfl]; exact hc)]
              exact hk
    exact key _ _ hc
/-- a search that fails has tried a closed set -/
theorem aug_fail {bh : Str → List Str} {L : List Str} (hb : ∀ l, ∀ x ∈ bh l, x ∈ L) : ∀ (n : Nat) (u : Str) (s s' : Js), s.tr.Nodup → (∀ x ∈ s.tr, x ∈ L) → L.length < n + s.tr.length → aug bh n u s = (false, s') →
    s'.tr.Nodup ∧ (∀ x ∈ s'.tr, x ∈ L) ∧ (∀ o ∈ bh u, o ∈ s'.tr) ∧ ∀ o ∈ s'.tr, ¬ o ∈ s.tr → ∃ w, getS s.fo o = some w ∧ ∀ x ∈ bh w, x ∈ s'.tr
  | 0, u, s, s', hd, hs, hl, h => by
    have len : s.tr.length ≤ L.length := by
      clear h hl
      generalize s.tr = xs at *
      have sub : ∀ (xs ys : List Str), xs.Nodup → (∀ x ∈ xs, x ∈ ys) → xs.length ≤ ys.length := by
        intro xs
        induction xs with
        | nil => intro ys _ _; exact Nat.zero_le _
        | cons x xs ih =>
          intro ys hn hm
          have h2 := List.nodup_cons.mp hn
          have hx := hm x List.mem_cons_self
          have := ih (ys.erase x) h2.2 fun y hy => (List.mem_erase_of_ne (fun z : y = x => h2.1 (by rw [← z]; exact hy))).mpr (hm y (List.mem_cons_of_mem _ hy))
          rw [List.length_erase_of_mem hx] at this
          have : 0 < ys.length := List.length_pos_of_mem hx
          rw [List.length_cons]
          omega
      exact sub xs L hd hs
    omega
  | n + 1, u, s, s', hd, hs, hl, h => by
    have key : ∀ (os : List Str) (s : Js), (∀ o ∈ os, o ∈ L) → s.tr.Nodup → (∀ x ∈ s.tr, x ∈ L) → L.length < n + 1 + s.tr.length → augL (aug bh n) u os s = (false, s') →
        s'.tr.Nodup ∧ (∀ x ∈ s'.tr, x ∈ L) ∧ (∀ x ∈ s.tr, x ∈ s'.tr) ∧ (∀ o ∈ os, o ∈ s'.tr) ∧ ∀ o ∈ s'.tr, ¬ o ∈ s.tr → ∃ w, getS s.fo o = some w ∧ ∀ x ∈ bh w, x ∈ s'.tr := by
      intro os
      induction os with
      | nil =>
        intro s _ hd hs _ h
        cases h
        exact ⟨hd, hs, fun _ h => h, fun _ h => (by cases h), fun o h1 h2 => absurd h1 h2⟩
      | cons o os ih =>
        intro s hos hd hs hl h
        have hos2 : ∀ x ∈ os, x ∈ L := fun x hx => hos x (List.mem_cons_of_mem _ hx)
        unfold augL at h
        split at h
        · rename_i hin
          obtain ⟨h1, h2, h3, h4, h5⟩ := ih s hos2 hd hs hl h
          refine ⟨h1, h2, h3, fun x hx => ?_, h5⟩
          rcases List.mem_cons.mp hx with rfl | hx
          · exact h3 _ hin
          · exact h4 x hx
        · rename_i hin
          split at h
          · cases h
          · rename_i w hw
            have a := ag_all bh n w ⟨s.fo, s.tr ++ [o]⟩
            split at h
            · cases h
            · rename_i s2 e
              have hd2 : (s.tr ++ [o]).Nodup := by
                rw [List.nodup_append]
                exact ⟨hd, List.nodup_cons.mpr ⟨List.not_mem_nil, List.nodup_nil⟩, fun x hx y hy z => hin (by rw [List.mem_singleton.mp hy] at z; rw [← z]; exact hx)⟩
              have hs2 : ∀ x ∈ s.tr ++ [o], x ∈ L := fun x hx => by
                rcases List.mem_append.mp hx with hx | hx
                · exact hs x hx
                · rw [List.mem_singleton.mp hx]; exact hos o List.mem_cons_self
              obtain ⟨r1, r2, r3, r4⟩ := aug_fail hb n w ⟨s.fo, s.tr ++ [o]⟩ s2 hd2 hs2 (by show L.length < n + (s.tr ++ [o]).length; rw [List.length_append, List.length_singleton]; omega) e
              rw [e] at a
              have hf : s2.fo = s.fo := a.fail rfl
              have hlen : s.tr.length ≤ s2.tr.length := by
                have sub : ∀ (xs ys : List Str), xs.Nodup → (∀ x ∈ xs, x ∈ ys) → xs.length ≤ ys.length := by
                  intro xs
                  induction xs with
                  | nil => intro ys _ _; exact Nat.zero_le _
                  | cons x xs ih =>
                    intro ys hn hm
                    have h2 := List.nodup_cons.mp hn
                    have hx := hm x List.mem_cons_self
                    have := ih (ys.erase x) h2.2 fun y hy => (List.mem_erase_of_ne (fun z : y = x => h2.1 (by rw [← z]; exact hy))).mpr (hm y (List.mem_cons_of_mem _ hy))
                    rw [List.length_erase_of_mem hx] at this
                    have : 0 < ys.length := List.length_pos_of_mem hx
                    rw [List.length_cons]
                    omega
                exact sub _ _ hd fun x hx => a.tr x (List.mem_append_left _ hx)
              obtain ⟨h1, h2, h3, h4, h5⟩ := ih s2 hos2 r1 r2 (by omega) h
              refine ⟨h1, h2, fun x hx => h3 x (a.tr x (List.mem_append_left _ hx)), fun x hx => ?_, fun x hx hxs => ?_⟩
              · rcases List.mem_cons.mp hx with rfl | hx
                · exact h3 _ (a.tr _ (List.mem_append_right _ (List.mem_singleton.mpr rfl)))
                · exact h4 x hx
              · by_cases hx2 : x ∈ s2.tr
                · by_cases hxo : x = o
                  · subst hxo
                    exact ⟨w, hw, fun y hy => h3 y (r3 y hy)⟩
                  · obtain ⟨w', q1, q2⟩ := r4 x hx2 fun z => (List.mem_append.mp z).elim hxs fun z => hxo (List.mem_singleton.mp z)
                    exact ⟨w', q1, fun y hy => h3 y (q2 y hy)⟩
                · obtain ⟨w', q1, q2⟩ := h5 x hx hx2
                  rw [hf] at q1
                  exact ⟨w', q1, q2⟩
    obtain ⟨h1, h2, h3, h4, h5⟩ := key _ _ (fun o ho => hb u o ho) hd hs hl h
    exact ⟨h1, h2, h4, h5⟩
end DL

/-! EV: as many lanes apart as chains are wanted (own work): plain lists. -/
namespace DL
open PySem L2 PySem.W
theorem nd_sub_len : ∀ {xs ys : List Str}, xs.Nodup → (∀ x ∈ xs, x ∈ ys) → xs.length ≤ ys.length
  | [], _, _, _ => Nat.zero_le _
  | x :: xs, ys, hn, hm => by
    have h2 := List.nodup_cons.mp hn
    have hx := hm x List.mem_cons_self
    have := nd_sub_len (ys := ys.erase x) h2.2 fun y hy => (List.mem_erase_of_ne (fun z : y = x => h2.1 (by rw [← z]; exact hy))).mpr (hm y (List.mem_cons_of_mem _ hy))
    rw [List.length_erase_of_mem hx] at this
    have : 0 < ys.length := List.length_pos_of_mem hx
    rw [List.length_cons]
    omega
/-- one lane joined, if it can be -/
def foStep (bh : Str → List Str) (n : Nat) (fo : Tb) (l : Str) : Tb := (aug bh n l ⟨fo, []⟩).2.fo
def foAll (bh : Str → List Str) (n : Nat) (ls : List Str) (fo : Tb) : Tb := ls.foldl (foStep bh n) fo
/-- joined so far: those of pre that have no place are shut in by a closed set -/
structure Jn (bh : Str → List Str) (L pre : List Str) (fo : Tb) : Prop where
  kn : (fo.map (·.1)).Nodup
  vn : (fo.map (·.2)).Nodup
  vs : ∀ v ∈ fo.map (·.2), v ∈ pre
  ed : ∀ p ∈ fo, p.1 ∈ bh p.2
  cl : ∃ T, Cl bh fo T ∧ (∀ x ∈ T, x ∈ L) ∧ ∀ u ∈ pre, ¬ u ∈ fo.map (·.2) → ∀ x ∈ bh u, x ∈ T
theorem Jn.step {bh : Str → List Str} {L pre : List Str} {fo : Tb} (h : Jn bh L pre fo) (hb : ∀ l, ∀ x ∈ bh l, x ∈ L) {n : Nat} (hn : L.length < n) {l : Str} (hl : ¬ l ∈ pre) : Jn bh L (pre ++ [l]) (foStep bh n fo l) := by
  obtain ⟨T, hT, hTL, hU⟩ := h.cl
  have a := ag_all bh n l ⟨fo, []⟩
  have ed := aug_edge (bh := bh) n l ⟨fo, []⟩ h.ed
  have kt := aug_keepT (T := T) n l ⟨fo, []⟩ hT
  unfold foStep
  generalize hr : aug bh n l ⟨fo, []⟩ = r at *
  obtain ⟨b, s'⟩ := r
  cases b with
  | false =>
    have hf : s'.fo = fo := a.fail rfl
    obtain ⟨h1, h2, h3, h4⟩ := aug_fail hb n l ⟨fo, []⟩ s' List.nodup_nil (fun _ z => (by cases z)) (by show L.length < n + 0; omega) hr
    show Jn bh L (pre ++ [l]) s'.fo
    rw [hf]
    refine ⟨h.kn, h.vn, fun v hv => List.mem_append_left _ (h.vs v hv), h.ed, T ++ s'.tr, fun o ho => ?_, fun x hx => ?_, fun u hu hnu x hx => ?_⟩
    · rcases List.mem_append.mp ho with ho | ho
      · obtain ⟨w, q1, q2⟩ := hT o ho
        exact ⟨w, q1, fun x hx => List.mem_append_left _ (q2 x hx)⟩
      · obtain ⟨w, q1, q2⟩ := h4 o ho (fun z => by cases z)
        exact ⟨w, q1, fun x hx => List.mem_append_right _ (q2 x hx)⟩
    · exact (List.mem_append.mp hx).elim (hTL x) (h2 x)
    · rcases List.mem_append.mp hu with hu | hu
      · exact List.mem_append_left _ (hU u hu hnu x hx)
      · rw [List.mem_singleton.mp hu] at hx
        exact List.mem_append_right _ (h3 x hx)
  | true =>
    have hv := aug_vals bh n l ⟨fo, []⟩ s' h.kn hr
    have hv : (s'.fo.map (·.2)).Perm (l :: fo.map (·.2)) := hv
    show Jn bh L (pre ++ [l]) s'.fo
    refine ⟨a.nd h.kn, ?_, fun v hm => ?_, ed, T, fun o ho => ?_, hTL, fun u hu hnu => ?_⟩
    · exact hv.nodup_iff.mpr (List.nodup_cons.mpr ⟨fun z => hl (h.vs l z), h.vn⟩)
    · rcases List.mem_cons.mp (hv.mem_iff.mp hm) with rfl | hm
      · exact List.mem_append_right _ (List.mem_singleton.mpr rfl)
      · exact List.mem_append_left _ (h.vs v hm)
    · obtain ⟨w, q1, q2⟩ := hT o ho
      exact ⟨w, (kt o ho).trans q1, q2⟩
    · rcases List.mem_append.mp hu with hu | hu
      · exact hU u hu fun z => hnu (hv.mem_iff.mpr (List.mem_cons_of_mem _ z))
      · rw [List.mem_singleton.mp hu] at hnu
        exact absurd (hv.mem_iff.mpr List.mem_cons_self) hnu
theorem Jn.all {bh : Str → List Str} {L : List Str} (hb : ∀ l, ∀ x ∈ bh l, x ∈ L) {n : Nat} (hn : L.length < n) : ∀ (ls pre : List Str) (fo : Tb), (pre ++ ls).Nodup → Jn bh L pre fo → Jn bh L (pre ++ ls) (foAll bh n ls fo)
  | [], pre, fo, _, h => by rw [List.append_nil]; exact h
  | l :: ls, pre, fo, hd, h => by
    have e : pre ++ l :: ls = (pre ++ [l]) ++ ls := by rw [List.append_assoc]; rfl
    rw [e] at hd ⊢
    have hl : ¬ l ∈ pre := fun z => (List.nodup_append.mp (List.nodup_append.mp hd).1).2.2 l z l (List.mem_singleton.mpr rfl) rfl
    exact Jn.all hb hn ls (pre ++ [l]) _ hd (h.step hb hn hl)
theorem Jn.ini {bh : Str → List Str} {L : List Str} : Jn bh L [] [] := ⟨List.nodup_nil, List.nodup_nil, fun _ h => (by cases h), fun _ h => (by cases h), [], fun _ h => (by cases h), fun _ h => (by cases h), fun _ h => (by cases h)⟩
/-- an order of lanes: strict -/
structure Od (bh : Str → List Str) (L : List Str) : Prop where
  sub : ∀ l, ∀ x ∈ bh l, x ∈ L
  irr : ∀ l, ¬ l ∈ bh l
  tra : ∀ {l x y}, x ∈ bh l → y ∈ bh x → y ∈ bh l

/-! lanes apart -/
def vOf (fo : Tb) (o : Str) : Str := (getS fo o).getD ""
/-- left ones so far and right ones: the first lefts have no place, then those of the rights -/
structure Ap (bh : Str → List Str) (L : List Str) (fo : Tb) (T U left right : List Str) : Prop where
  le : left = U ++ right.map (vOf fo)
  rn : right.Nodup
  rt : ∀ x ∈ right, x ∈ T
  rb : ∀ x ∈ right, ∃ l ∈ left, x ∈ bh l
/-- what is fixed: fo joins lanes, T closed -/
structure Fx0 (bh : Str → List Str) (L : List Str) (fo : Tb) (T U : List Str) : Prop where
  od : Od bh L
  ln : L.Nodup
  kn : (fo.map (·.1)).Nodup
  vn : (fo.map (·.2)).Nodup
  vs : ∀ v ∈ fo.map (·.2), v ∈ L
  ed : ∀ p ∈ fo, p.1 ∈ bh p.2
  tl : ∀ x ∈ T, x ∈ L
  cl : Cl bh fo T
  ue : U = L.filter fun l => !decide (l ∈ fo.map (·.2))
  ut : ∀ u ∈ U, ∀ x ∈ bh u, x ∈ T
section
variable {bh : Str → List Str} {L : List Str} {fo : Tb} {T U left right : List Str}
theorem vOf_at {o w : Str} (h : getS fo o = some w) : vOf fo o = w := by unfold vOf; rw [h]; rfl
theorem Fx0.at (f : Fx0 bh L fo T U) {o : Str} (h : o ∈ T) : getS fo o = some (vOf fo o) ∧ (o, vOf fo o) ∈ fo ∧ ∀ x ∈ bh (vOf fo o), x ∈ T := by
  obtain ⟨w, h1, h2⟩ := f.cl o h
  rw [vOf_at h1]
  exact ⟨h1, getS_some h1, h2⟩
theorem inj_of_vn : ∀ {fo : Tb}, (fo.map (·.2)).Nodup → ∀ {o o' w : Str}, (o, w) ∈ fo → (o', w) ∈ fo → o = o'
  | [], _, _, _, _, h, _ => by cases h
  | p :: l, hn, o, o', w, h1, h2 => by
    have hn2 := List.nodup_cons.mp hn
    rcases List.mem_cons.mp h1 with e1 | h1
    · rcases List.mem_cons.mp h2 with e2 | h2
      · rw [← e1] at e2; cases e2; rfl
      · exact absurd (List.mem_map.mpr ⟨(o', w), h2, by rw [← e1]⟩ : p.2 ∈ l.map (·.2)) hn2.1
    · rcases List.mem_cons.mp h2 with e2 | h2
      · exact absurd (List.mem_map.mpr ⟨(o, w), h1, by rw [← e2]⟩ : p.2 ∈ l.map (·.2)) hn2.1
      · exact inj_of_vn hn2.2 h1 h2
theorem Ap.nd (f : Fx0 bh L fo T U) (a : Ap bh L fo T U left right) : left.Nodup ∧ ∀ x ∈ left, x ∈ L := by
  have hU : ∀ u ∈ U, u ∈ L ∧ ¬ u ∈ fo.map (·.2) := fun u hu => by
    rw [f.ue, List.mem_filter, Bool.not_eq_true', decide_eq_false_iff_not] at hu
    exact hu
  have hv : ∀ o ∈ right, (o, vOf fo o) ∈ fo := fun o ho => (f.at (a.rt o ho)).2.1
  rw [a.le]
  refine ⟨List.nodup_append.mpr ⟨by rw [f.ue]; exact f.ln.filter _, ?_, fun x hx y hy z => ?_⟩, fun x hx => ?_⟩
  · have key : ∀ rs : List Str, rs.Nodup → (∀ o ∈ rs, (o, vOf fo o) ∈ fo) → (rs.map (vOf fo)).Nodup := by
      intro rs
      induction rs with
      | nil => intro _ _; exact List.nodup_nil
      | cons r rs ih =>
        intro hn hm
        have h2 := List.nodup_cons.mp hn
        rw [List.map_cons, List.nodup_cons]
        refine ⟨fun z => ?_, ih h2.2 fun o ho => hm o (List.mem_cons_of_mem _ ho)⟩
        obtain ⟨o, ho, e⟩ := List.mem_map.mp z
        have m1 := hm o (List.mem_cons_of_mem _ ho)
        rw [e] at m1
        exact h2.1 (inj_of_vn f.vn m1 (hm r List.mem_cons_self) ▸ ho)
    exact key _ a.rn hv
  · obtain ⟨o, ho, rfl⟩ := List.mem_map.mp hy
    exact (hU x hx).2 (z ▸ List.mem_map.mpr ⟨_, hv o ho, rfl⟩)
  · rcases List.mem_append.mp hx with hx | hx
    · exact (hU x hx).1
    · obtain ⟨o, ho, rfl⟩ := List.mem_map.mp hx
      exact f.vs _ (List.mem_map.mpr ⟨_, hv o ho, rfl⟩)
/-- the lanes that are left and not right -/
def apL (L left right : List Str) : List Str := L.filter fun l => decide (l ∈ left) && !decide (l ∈ right)
theorem mem_apL {x : Str} : x ∈ apL L left right ↔ x ∈ L ∧ x ∈ left ∧ ¬ x ∈ right := by
  unfold apL
  rw [List.mem_filter, Bool.and_eq_true, decide_eq_true_eq, Bool.not_eq_true', decide_eq_false_iff_not]
theorem filt_len : ∀ (xs : List Str) (p : Str → Bool), (xs.filter p).length + (xs.filter fun x => !p x).length = xs.length
  | [], _ => rfl
  | x :: xs, p => by
    have := filt_len xs p
    rw [List.filter_cons, List.filter_cons]
    cases p x <;> simp <;> omega
/-- no two of them in the order; as many as have no place -/
theorem Ap.fin (f : Fx0 bh L fo T U) (a : Ap bh L fo T U left right) (hc : ∀ l ∈ left, ∀ x ∈ bh l, x ∈ right) :
    (∀ x ∈ apL L left right, ∀ y ∈ apL L left right, ¬ y ∈ bh x) ∧ (apL L left right).length = U.length := by
  obtain ⟨ln, ls⟩ := a.nd f
  refine ⟨fun x hx y hy z => (mem_apL.mp hy).2.2 (hc x (mem_apL.mp hx).2.1 y z), ?_⟩
  -- every right one is a left one
  have hrl : ∀ x ∈ right, x ∈ left := fun x hx => by
    have hxL := f.tl x (a.rt x hx)
    by_cases hu : x ∈ fo.map (·.2)
    · obtain ⟨p, hp, e⟩ := List.mem_map.mp hu
      have hpb := f.ed p hp
      have e : p.2 = x := e
      rw [e] at hpb
      obtain ⟨l, hl, hxl⟩ := a.rb x hx
      have hpr := hc l hl p.1 (f.od.tra hxl hpb)
      have hv : vOf fo p.1 = p.2 := vOf_at (getS_mem f.kn (show (p.1, p.2) ∈ fo from hp))
      rw [a.le]
      exact List.mem_append_right _ (List.mem_map.mpr ⟨p.1, hpr, hv.trans e⟩)
    · rw [a.le]
      exact List.mem_append_left _ (by rw [f.ue, List.mem_filter, Bool.not_eq_true', decide_eq_false_iff_not]; exact ⟨hxL, hu⟩)
  have e1 : (apL L left right).length = (left.filter fun l => !decide (l ∈ right)).length := by
    refine Nat.le_antisymm (nd_sub_len (f.ln.filter _) fun x hx => ?_) (nd_sub_len (ln.filter _) fun x hx => ?_)
    · have := mem_apL.mp hx
      exact List.mem_filter.mpr ⟨this.2.1, by rw [decide_eq_false this.2.2]; rfl⟩
    · obtain ⟨h1, h2⟩ := List.mem_filter.mp hx
      rw [Bool.not_eq_true', decide_eq_false_iff_not] at h2
      exact mem_apL.mpr ⟨ls x h1, h1, h2⟩
  have e2 : (left.filter fun l => decide (l ∈ right)).length = right.length := by
    refine Nat.le_antisymm (nd_sub_len (ln.filter _) fun x hx => of_decide_eq_true (List.mem_filter.mp hx).2) (nd_sub_len a.rn fun x hx => List.mem_filter.mpr ⟨hrl x hx, decide_eq_true hx⟩)
  have e3 := filt_len left fun l => decide (l ∈ right)
  have e4 : left.length = U.length + right.length := by rw [a.le, List.length_append, List.length_map]
  omega
end
end DL

/-! EW: chains of joined lanes (own work): plain lists. -/
namespace DL
open PySem L2 PySem.W
/-- the table turned about: who follows -/
def swS (fo : Tb) : Tb := fo.map fun p => (p.2, p.1)
theorem swS_mem {fo : Tb} {x y : Str} : (x, y) ∈ swS fo ↔ (y, x) ∈ fo := by
  unfold swS
  rw [List.mem_map]
  constructor
  · rintro ⟨p, hp, e⟩
    cases e
    exact hp
  · intro h
    exact ⟨(y, x), h, rfl⟩
/-- from a lane on, the followers -/
def chF (fo : Tb) : Nat → Str → List Str
  | 0, l => [l]
  | n + 1, l => match getS (swS fo) l with
    | none => [l]
    | some y => l :: chF fo n y
/-- fo joins lanes of L in order -/
structure Jo (bh : Str → List Str) (L : List Str) (fo : Tb) : Prop where
  od : Od bh L
  ln : L.Nodup
  kn : (fo.map (·.1)).Nodup
  vn : (fo.map (·.2)).Nodup
  vs : ∀ v ∈ fo.map (·.2), v ∈ L
  ed : ∀ p ∈ fo, p.1 ∈ bh p.2
section
variable {bh : Str → List Str} {L : List Str} {fo : Tb}
theorem Jo.nx (j : Jo bh L fo) {x y : Str} (h : getS (swS fo) x = some y) : (y, x) ∈ fo ∧ y ∈ bh x ∧ y ∈ L := by
  have h1 := swS_mem.mp (getS_some h)
  have h2 : y ∈ bh x := j.ed _ h1
  exact ⟨h1, h2, j.od.sub x y h2⟩
theorem Jo.ch (j : Jo bh L fo) : ∀ (n : Nat) (l : Str), l ∈ L → (∀ x ∈ chF fo n l, x ∈ L ∧ (x = l ∨ x ∈ bh l)) ∧ (chF fo n l).Pairwise (fun a b => b ∈ bh a)
  | 0, l, hl => ⟨fun x hx => by rw [List.mem_singleton.mp hx]; exact ⟨hl, .inl rfl⟩, List.pairwise_singleton _ _⟩
  | n + 1, l, hl => by
    rw [chF]
    cases h : getS (swS fo) l with
    | none => exact ⟨fun x hx => by rw [List.mem_singleton.mp hx]; exact ⟨hl, .inl rfl⟩, List.pairwise_singleton _ _⟩
    | some y =>
      obtain ⟨_, hy, hyL⟩ := j.nx h
      obtain ⟨h1, h2⟩ := j.ch n y hyL
      have h3 : ∀ x ∈ chF fo n y, x ∈ bh l := fun x hx => by
        rcases (h1 x hx).2 with rfl | z
        · exact hy
        · exact j.od.tra hy z
      refine ⟨fun x hx => ?_, List.pairwise_cons.mpr ⟨h3, h2⟩⟩
      rcases List.mem_cons.mp hx with rfl | hx
      · exact ⟨hl, .inl rfl⟩
      · exact ⟨(h1 x hx).1, .inr (h3 x hx)⟩
/-- those that follow none -/
def hdL (L : List Str) (fo : Tb) : List Str := L.filter fun l => !decide (l ∈ fo.map (·.1))
/-- as many without a follower as without one that they follow -/
theorem Jo.count (j : Jo bh L fo) : (hdL L fo).length = (L.filter fun l => !decide (l ∈ fo.map (·.2))).length := by
  have h1 := filt_len L fun l => decide (l ∈ fo.map (·.1))
  have h2 := filt_len L fun l => decide (l ∈ fo.map (·.2))
  have hk : ∀ x ∈ fo.map (·.1), x ∈ L := fun x hx => by
    obtain ⟨p, hp, rfl⟩ := List.mem_map.mp hx
    exact j.od.sub p.2 p.1 (j.ed p hp)
  have eq : ∀ ks : List Str, ks.Nodup → (∀ x ∈ ks, x ∈ L) → (L.filter fun l => decide (l ∈ ks)).length = ks.length := fun ks hn hs =>
    Nat.le_antisymm (nd_sub_len (j.ln.filter _) fun x hx => of_decide_eq_true (List.mem_filter.mp hx).2) (nd_sub_len hn fun x hx => List.mem_filter.mpr ⟨hs x hx, decide_eq_true hx⟩)
  have e1 := eq _ j.kn hk
  have e2 := eq _ j.vn j.vs
  rw [List.length_map] at e1 e2
  unfold hdL
  omega
end
/-- a state of the search over L -/
structure JOk (L : List Str) (s : Js) : Prop where
  kn : (s.fo.map (·.1)).Nodup
  ks : ∀ x ∈ s.fo.map (·.1), x ∈ L
  vs : ∀ x ∈ s.fo.map (·.2), x ∈ L
  tn : s.tr.Nodup
  ts : ∀ x ∈ s.tr, x ∈ L
theorem JOk.put {L : List Str} {s : Js} (h : JOk L s) {o u : Str} (ho : o ∈ L) (hu : u ∈ L) : JOk L ⟨putS s.fo o u, s.tr⟩ := by
  refine ⟨putS_nd h.kn, fun x hx => ?_, fun x hx => ?_, h.tn, h.ts⟩
  · rcases putS_has.mp hx with rfl | hx
    · exact ho
    · exact h.ks x hx
  · obtain ⟨p, hp, rfl⟩ := List.mem_map.mp hx
    rcases putS_mem (x := p.1) (w := p.2) hp with ⟨_, e⟩ | hp
    · rw [e]; exact hu
    · exact h.vs _ (List.mem_map.mpr ⟨_, hp, rfl⟩)
theorem JOk.len {L : List Str} {s : Js} (h : JOk L s) : s.tr.length ≤ L.length ∧ s.fo.length ≤ L.length := by
  refine ⟨nd_sub_len h.tn h.ts, ?_⟩
  have := nd_sub_len h.kn h.ks
  rwa [List.length_map] at this
end DL

/-! EX: two own objects of one class and an operator (own work). -/
namespace DL
open PySem L2 PySem.W
/-! ### x op y, both of one class of the text -/
section
variable {X : Cx} {CX : CXT} {k : Nat} {C f : Addr} {fd : FuncData} {ps : List Str} {sp : Sp} {E : XK} {Cc : Ct}
/-- x op= y -/
structure Io2 (K : PySem.W.Frag) (C : Addr) (op : Operator) (f : Addr) : Prop where
  first : selfFirst K C = true
  sm : Sm K C (dunderI op.info.2) f
end
/-! ### the same where what is raised may speak of the slots -/
section
variable {X : Cx} {k : Nat} {C f : Addr} {ps : List Str} {E : L2.St → XK} {Cc : Ct} {l r : Expr} {pos : Pos} {tl tr : TE}
end
/-! ### data -/
section
variable {K : PySem.W.Frag} {B F0 : Hp} {ro : Ro} {ka k1 k2 k3 kr : Cells} {ta : List (V × W)} {td te tf ty tx : TE} {De : Ends} {t u : TS} {w x y : W} {b b2 : Bool} {C : Addr} {fs gs : List (Str × D)} {d : D}
end
section
variable {K : PySem.W.Frag} {B F0 : Hp} {ro : Ro} {ka k1 k2 k3 kr : Cells} {ta : List (V × W)} {td te tf ty tx : TE} {De De' : Ends} {t u : TS} {w x y : W} {b b2 : Bool} {C C1 : Addr} {fs gs hs : List (Str × D)} {d : D}
/-- a reading that knows the slots -/
theorem EvR.atS {tf : L2.St → TE} {P : W → Cells → Prop} (h : ∀ sg, EvR K (tf sg) ro ka P) : EvR K (tAtS tf) ro ka P := fun B F0 ta sg H Q e q => h sg B F0 ta sg H Q e q
theorem EvD.atS {tf : L2.St → TE} (h : ∀ sg, EvD K (tf sg) ro ka w k1) : EvD K (tAtS tf) ro ka w k1 := fun B F0 ta sg H Q e q => h sg B F0 ta sg H Q e q
end
end DL

/-! EY: patterns as trees, their words, the machine of atoms (own work). -/
namespace DL
open PySem L2 PySem.W
/-- a pattern: an atom (one of some names, or none of them), two behind one another, either, any number, one or none -/
inductive Tr where
  | at (any : Bool) (ns : List Str) | join (a b : Tr) | either (a b : Tr) | rep (a : Tr) | opt (a : Tr)
def kdS : Bool → Str
  | true => "any"
  | false => "none"
/-- as the program holds it (names a tuple), as the law holds it (names a list) -/
def Tr.d (law : Bool) : Tr → D
  | .at k ns => .tup [.str (kdS k), if law then .lst (stD ns) else .tup (stD ns)]
  | .join a b => .tup [.str "join", a.d law, b.d law]
  | .either a b => .tup [.str "either", a.d law, b.d law]
  | .rep a => .tup [.str "repeat", a.d law]
  | .opt a => .tup [.str "option", a.d law]
/-- nested operators -/
def Tr.dep : Tr → Nat
  | .at _ _ => 0
  | .join a b => max a.dep b.dep + 1
  | .either a b => max a.dep b.dep + 1
  | .rep a => a.dep + 1
  | .opt a => a.dep + 1
/-- an atom takes a name -/
def atB (p : Bool × List Str) (x : Str) : Bool := decide (x ∈ p.2) == p.1
/-- any number of words one behind another -/
inductive Str_ (P : List Str → Prop) : List Str → Prop where
  | nil : Str_ P []
  | snoc {u z : List Str} (h : Str_ P u) (hz : P z) : Str_ P (u ++ z)
/-- the words of a pattern -/
def Lg : Tr → List Str → Prop
  | .at k ns, w => ∃ x, w = [x] ∧ atB (k, ns) x = true
  | .join a b, w => ∃ u v, w = u ++ v ∧ Lg a u ∧ Lg b v
  | .either a b, w => Lg a w ∨ Lg b w
  | .rep a, w => Str_ (Lg a) w
  | .opt a, w => w = [] ∨ Lg a w
/-- the machine: atoms, first and last ones, pairs, has it the empty word -/
structure Mc where
  at_ : List (Bool × List Str)
  fi : List Nat
  la : List Nat
  pr : List (Nat × Nat)
  op : Bool
def crN (xs ys : List Nat) : List (Nat × Nat) := xs.flatMap fun x => ys.map fun y => (x, y)
theorem crN_mem {xs ys : List Nat} {x y : Nat} : (x, y) ∈ crN xs ys ↔ x ∈ xs ∧ y ∈ ys := by
  unfold crN
  rw [List.mem_flatMap]
  constructor
  · rintro ⟨a, ha, h⟩
    obtain ⟨b, hb, e⟩ := List.mem_map.mp h
    cases e
    exact ⟨ha, hb⟩
  · rintro ⟨hx, hy⟩
    exact ⟨x, hx, List.mem_map.mpr ⟨y, hy, rfl⟩⟩
def mcT : Tr → Nat → Mc
  | .at k ns, s => ⟨[(k, ns)], [s], [s], [], false⟩
  | .rep a, s => let m := mcT a s; ⟨m.at_, m.fi, m.la, m.pr ++ crN m.la m.fi, true⟩
  | .opt a, s => let m := mcT a s; ⟨m.at_, m.fi, m.la, m.pr, true⟩
  | .either a b, s => let m := mcT a s; let n := mcT b (s + m.at_.length); ⟨m.at_ ++ n.at_, m.fi ++ n.fi, m.la ++ n.la, m.pr ++ n.pr, m.op || n.op⟩
  | .join a b, s => let m := mcT a s; let n := mcT b (s + m.at_.length)
    ⟨m.at_ ++ n.at_, if m.op then m.fi ++ n.fi else m.fi, if n.op then m.la ++ n.la else n.la, m.pr ++ n.pr ++ crN m.la n.fi, m.op && n.op⟩
/-- a way through the machine that reads w and ends at an atom -/
inductive Pth (T : Nat → Str → Bool) (fi : List Nat) (pr : List (Nat × Nat)) : List Str → Nat → Prop where
  | one {a : Nat} {x : Str} (h : a ∈ fi) (t : T a x = true) : Pth T fi pr [x] a
  | more {w : List Str} {a b : Nat} {x : Str} (h : Pth T fi pr w a) (hp : (a, b) ∈ pr) (t : T b x = true) : Pth T fi pr (w ++ [x]) b
theorem Pth.ne {T : Nat → Str → Bool} {fi : List Nat} {pr : List (Nat × Nat)} {w : List Str} {a : Nat} (h : Pth T fi pr w a) : w ≠ [] := by
  cases h <;> simp
/-- atoms within lo ≤ .. < hi -/
structure McR (m : Mc) (lo hi : Nat) : Prop where
  fi : ∀ a ∈ m.fi, lo ≤ a ∧ a < hi
  la : ∀ a ∈ m.la, lo ≤ a ∧ a < hi
  pr : ∀ p ∈ m.pr, (lo ≤ p.1 ∧ p.1 < hi) ∧ lo ≤ p.2 ∧ p.2 < hi
theorem McR.wide {m : Mc} {lo hi lo' hi' : Nat} (r : McR m lo hi) (h1 : lo' ≤ lo) (h2 : hi ≤ hi') : McR m lo' hi' :=
  ⟨fun a h => by have := r.fi a h; omega, fun a h => by have := r.la a h; omega, fun p h => by have := r.pr p h; omega⟩
theorem crN_r {xs ys : List Nat} {lo hi : Nat} (hx : ∀ a ∈ xs, lo ≤ a ∧ a < hi) (hy : ∀ a ∈ ys, lo ≤ a ∧ a < hi) : ∀ p ∈ crN xs ys, (lo ≤ p.1 ∧ p.1 < hi) ∧ lo ≤ p.2 ∧ p.2 < hi := by
  rintro ⟨x, y⟩ h
  have h' := crN_mem.mp h
  exact ⟨hx x h'.1, hy y h'.2⟩
theorem mcT_r : ∀ (t : Tr) (s : Nat), McR (mcT t s) s (s + (mcT t s).at_.length)
  | .at k ns, s => ⟨fun a h => by have e : a = s := List.mem_singleton.mp h; subst e; exact ⟨Nat.le_refl _, Nat.lt_succ_self _⟩, fun a h => by have e : a = s := List.mem_singleton.mp h; subst e; exact ⟨Nat.le_refl _, Nat.lt_succ_self _⟩, fun p h => by cases h⟩
  | .rep a, s => by
    have r := mcT_r a s
    refine ⟨r.fi, r.la, fun p h => ?_⟩
    rcases List.mem_append.mp h with h | h
    · exact r.pr p h
    · exact crN_r r.la r.fi p h
  | .opt a, s => by
    have r := mcT_r a s
    exact ⟨r.fi, r.la, r.pr⟩
  | .either a b, s => by
    have r1 := mcT_r a s
    have r2 := mcT_r b (s + (mcT a s).at_.length)
    have e : (mcT (.either a b) s).at_.length = (mcT a s).at_.length + (mcT b (s + (mcT a s).at_.length)).at_.length := List.length_append
    rw [e]
    have w1 := r1.wide (lo' := s) (hi' := s + ((mcT a s).at_.length + (mcT b (s + (mcT a s).at_.length)).at_.length)) (Nat.le_refl _) (by omega)
    have w2 := r2.wide (lo' := s) (hi' := s + ((mcT a s).at_.length + (mcT b (s + (mcT a s).at_.length)).at_.length)) (by omega) (by omega)
    exact ⟨fun x h => (List.mem_append.mp h).elim (w1.fi x) (w2.fi x), fun x h => (List.mem_append.mp h).elim (w1.la x) (w2.la x), fun p h => (List.mem_append.mp h).elim (w1.pr p) (w2.pr p)⟩
  | .join a b, s => by
    have r1 := mcT_r a s
    have r2 := mcT_r b (s + (mcT a s).at_.length)
    have e : (mcT (.join a b) s).at_.length = (mcT a s).at_.length + (mcT b (s + (mcT a s).at_.length)).at_.length := List.length_append
    rw [e]
    have w1 := r1.wide (lo' := s) (hi' := s + ((mcT a s).at_.length + (mcT b (s + (mcT a s).at_.length)).at_.length)) (Nat.le_refl _) (by omega)
    have w2 := r2.wide (lo' := s) (hi' := s + ((mcT a s).at_.length + (mcT b (s + (mcT a s).at_.length)).at_.length)) (by omega) (by omega)
    refine ⟨fun x h => ?_, fun x h => ?_, fun p h => ?_⟩
    · have h : x ∈ (if (mcT a s).op then (mcT a s).fi ++ (mcT b (s + (mcT a s).at_.length)).fi else (mcT a s).fi) := h
      split at h
      · exact (List.mem_append.mp h).elim (w1.fi x) (w2.fi x)
      · exact w1.fi x h
    · have h : x ∈ (if (mcT b (s + (mcT a s).at_.length)).op then (mcT a s).la ++ (mcT b (s + (mcT a s).at_.length)).la else (mcT b (s + (mcT a s).at_.length)).la) := h
      split at h
      · exact (List.mem_append.mp h).elim (w1.la x) (w2.la x)
      · exact w2.la x h
    · rcases List.mem_append.mp h with h | h
      · exact (List.mem_append.mp h).elim (w1.pr p) (w2.pr p)
      · exact crN_r w1.la w2.fi p h
section
variable {T : Nat → Str → Bool} {fi fi2 fi' : List Nat} {pr pr2 pr' : List (Nat × Nat)} {w u v : List Str} {a c : Nat}
theorem Pth.mono (h : Pth T fi pr w c) (h1 : ∀ a ∈ fi, a ∈ fi') (h2 : ∀ p ∈ pr, p ∈ pr') : Pth T fi' pr' w c := by
  induction h with
  | one h t => exact .one (h1 _ h) t
  | more h hp t ih => exact .more ih (h2 _ hp) t
theorem Pth.res {R : Nat → Prop} (h : Pth T fi' pr' w c) (h1 : ∀ a ∈ fi', R a → a ∈ fi) (h2 : ∀ a b, (a, b) ∈ pr' → R b → (a, b) ∈ pr ∧ R a) (hc : R c) : Pth T fi pr w c := by
  induction h with
  | one h t => exact .one (h1 _ h hc) t
  | more h hp t ih => exact .more (ih (h2 _ _ hp hc).2) (h2 _ _ hp hc).1 t
theorem Pth.cat (h : Pth T fi' pr' u a) (h1 : ∀ b ∈ fi2, (a, b) ∈ pr') (h2 : ∀ p ∈ pr2, p ∈ pr') (g : Pth T fi2 pr2 v c) : Pth T fi' pr' (u ++ v) c := by
  induction g with
  | one hb t => exact .more h (h1 _ hb) t
  | more g hp t ih =>
    rw [← List.append_assoc]
    exact .more ih (h2 _ hp) t
end
theorem glu : ∀ (t : Tr) (s : Nat) (T : Nat → Str → Bool), (∀ i p, (mcT t s).at_[i]? = some p → ∀ x, T (s + i) x = atB p x) → ∀ w, Lg t w ↔ (w = [] ∧ (mcT t s).op = true) ∨ ∃ a ∈ (mcT t s).la, Pth T (mcT t s).fi (mcT t s).pr w a
  | .at k ns, s, T, hT, w => by
    have t0 : ∀ x, T s x = atB (k, ns) x := hT 0 (k, ns) rfl
    constructor
    · rintro ⟨x, rfl, h⟩
      exact .inr ⟨s, List.mem_singleton.mpr rfl, .one (List.mem_singleton.mpr rfl) (by rw [t0]; exact h)⟩
    · rintro (⟨_, h⟩ | ⟨a, ha, h⟩)
      · cases h
      · cases h with
        | one h1 t =>
          have e : a = s := List.mem_singleton.mp h1
          subst e
          exact ⟨_, rfl, by rw [← t0]; exact t⟩
        | more h hp t => cases hp
  | .opt a, s, T, hT, w => by
    have ih := glu a s T hT w
    constructor
    · rintro (rfl | h)
      · exact .inl ⟨rfl, rfl⟩
      · rcases ih.mp h with ⟨rfl, _⟩ | h
        · exact .inl ⟨rfl, rfl⟩
        · exact .inr h
    · rintro (⟨rfl, _⟩ | h)
      · exact .inl rfl
      · exact .inr (ih.mpr (.inr h))
  | .either a b, s, T, hT, w => by
    have r1 := mcT_r a s
    have r2 := mcT_r b (s + (mcT a s).at_.length)
    have ih1 := glu a s T (fun i p h => hT i p (by
      show ((mcT a s).at_ ++ _)[i]? = some p
      rw [List.getElem?_append_left (List.getElem?_eq_some_iff.mp h).1]; exact h)) w
    have ih2 := glu b (s + (mcT a s).at_.length) T (fun i p h x => by
      rw [Nat.add_assoc]
      refine hT _ p ?_ x
      show ((mcT a s).at_ ++ _)[_]? = some p
      rw [List.getElem?_append_right (by omega), Nat.add_sub_cancel_left]; exact h) w
    constructor
    · rintro (h | h)
      · rcases ih1.mp h with ⟨rfl, o⟩ | ⟨c, hc, h⟩
        · exact .inl ⟨rfl, by show ((mcT a s).op || _) = true; rw [o]; rfl⟩
        · exact .inr ⟨c, List.mem_append_left _ hc, h.mono (fun _ => List.mem_append_left _) fun _ => List.mem_append_left _⟩
      · rcases ih2.mp h with ⟨rfl, o⟩ | ⟨c, hc, h⟩
        · exact .inl ⟨rfl, by show (_ || (mcT b (s + (mcT a s).at_.length)).op) = true; rw [o]; exact Bool.or_true _⟩
        · exact .inr ⟨c, List.mem_append_right _ hc, h.mono (fun _ => List.mem_append_right _) fun _ => List.mem_append_right _⟩
    · rintro (⟨rfl, o⟩ | ⟨c, hc, h⟩)
      · rcases Bool.or_eq_true_iff.mp (show ((mcT a s).op || (mcT b (s + (mcT a s).at_.length)).op) = true from o) with o | o
        · exact .inl (ih1.mpr (.inl ⟨rfl, o⟩))
        · exact .inr (ih2.mpr (.inl ⟨rfl, o⟩))
      · rcases List.mem_append.mp hc with hc | hc
        · refine .inl (ih1.mpr (.inr ⟨c, hc, h.res (R := fun x => x < s + (mcT a s).at_.length) (fun x hx lt => ?_) (fun x y hp lt => ?_) (r1.la c hc).2⟩))
          · exact (List.mem_append.mp hx).elim id fun z => absurd (r2.fi x z).1 (by omega)
          · rcases List.mem_append.mp hp with hp | hp
            · exact ⟨hp, (r1.pr _ hp).1.2⟩
            · exact absurd (r2.pr _ hp).2.1 (by show ¬ _ ≤ y; omega)
        · refine .inr (ih2.mpr (.inr ⟨c, hc, h.res (R := fun x => s + (mcT a s).at_.length ≤ x) (fun x hx le => ?_) (fun x y hp le => ?_) (r2.la c hc).1⟩))
          · exact (List.mem_append.mp hx).elim (fun z => absurd (r1.fi x z).2 (by omega)) id
          · rcases List.mem_append.mp hp with hp | hp
            · exact absurd (r1.pr _ hp).2.2 (by show ¬ y < _; omega)
            · exact ⟨hp, (r2.pr _ hp).1.1⟩
  | .rep a, s, T, hT, w => by
    have ih := glu a s T hT
    have up : ∀ {u : List Str} {c : Nat}, Pth T (mcT a s).fi (mcT a s).pr u c → Pth T (mcT a s).fi ((mcT a s).pr ++ crN (mcT a s).la (mcT a s).fi) u c := fun h => h.mono (fun _ z => z) fun _ z => List.mem_append_left _ z
    have fwd : ∀ {u : List Str}, Str_ (Lg a) u → u = [] ∨ ∃ c ∈ (mcT a s).la, Pth T (mcT a s).fi ((mcT a s).pr ++ crN (mcT a s).la (mcT a s).fi) u c := fun h => by
      induction h with
      | nil => exact .inl rfl
      | @snoc u z h hz ihu =>
        rcases (ih z).mp hz with ⟨rfl, _⟩ | ⟨c, hc, pz⟩
        · rw [List.append_nil]
          exact ihu
        · rcases ihu with rfl | ⟨d, hd, pu⟩
          · exact .inr ⟨c, hc, by rw [List.nil_append]; exact up pz⟩
          · exact .inr ⟨c, hc, pu.cat (fun b hb => List.mem_append_right _ (crN_mem.mpr ⟨hd, hb⟩)) (fun _ z => List.mem_append_left _ z) pz⟩
    have back : ∀ {u : List Str} {c : Nat}, Pth T (mcT a s).fi ((mcT a s).pr ++ crN (mcT a s).la (mcT a s).fi) u c → ∃ u1 u2, u = u1 ++ u2 ∧ Str_ (Lg a) u1 ∧ Pth T (mcT a s).fi (mcT a s).pr u2 c := fun h => by
      induction h with
      | one h t => exact ⟨[], _, rfl, .nil, .one h t⟩
      | @more w x y z h hp t ihw =>
        obtain ⟨u1, u2, rfl, s1, p2⟩ := ihw
        rcases List.mem_append.mp hp with hp | hp
        · exact ⟨u1, u2 ++ [z], List.append_assoc _ _ _, s1, .more p2 hp t⟩
        · have hp' := crN_mem.mp hp
          exact ⟨u1 ++ u2, [z], rfl, .snoc s1 ((ih u2).mpr (.inr ⟨x, hp'.1, p2⟩)), .one hp'.2 t⟩
    constructor
    · intro h
      rcases fwd h with rfl | h
      · exact .inl ⟨rfl, rfl⟩
      · exact .inr h
    · rintro (⟨rfl, _⟩ | ⟨c, hc, h⟩)
      · exact .nil
      · obtain ⟨u1, u2, rfl, s1, p2⟩ := back h
        exact .snoc s1 ((ih u2).mpr (.inr ⟨c, hc, p2⟩))
  | .join a b, s, T, hT, w => by
    have r1 := mcT_r a s
    have r2 := mcT_r b (s + (mcT a s).at_.length)
    have ih1 := glu a s T (fun i p h => hT i p (by
      show ((mcT a s).at_ ++ _)[i]? = some p
      rw [List.getElem?_append_left (List.getElem?_eq_some_iff.mp h).1]; exact h))
    have ih2 := glu b (s + (mcT a s).at_.length) T (fun i p h x => by
      rw [Nat.add_assoc]
      refine hT _ p ?_ x
      show ((mcT a s).at_ ++ _)[_]? = some p
      rw [List.getElem?_append_right (by omega), Nat.add_sub_cancel_left]; exact h)
    generalize hm : mcT a s = m at *
    generalize hn : mcT b (s + m.at_.length) = n at *
    have eF : (mcT (.join a b) s).fi = if m.op then m.fi ++ n.fi else m.fi := by subst hm hn; rfl
    have eL : (mcT (.join a b) s).la = if n.op then m.la ++ n.la else n.la := by subst hm hn; rfl
    have eP : (mcT (.join a b) s).pr = m.pr ++ n.pr ++ crN m.la n.fi := by subst hm hn; rfl
    have eO : (mcT (.join a b) s).op = (m.op && n.op) := by subst hm hn; rfl
    rw [eF, eL, eP, eO]
    have inF : ∀ x ∈ m.fi, x ∈ (if m.op then m.fi ++ n.fi else m.fi) := fun x h => by
      split
      · exact List.mem_append_left _ h
      · exact h
    have upA : ∀ {u : List Str} {c : Nat}, Pth T m.fi m.pr u c → Pth T (if m.op then m.fi ++ n.fi else m.fi) (m.pr ++ n.pr ++ crN m.la n.fi) u c := fun h => h.mono inF fun _ z => List.mem_append_left _ (List.mem_append_left _ z)
    have inB : ∀ x ∈ n.la, x ∈ (if n.op then m.la ++ n.la else n.la) := fun x h => by
      split
      · exact List.mem_append_right _ h
      · exact h
    have low : ∀ {u : List Str} {c : Nat}, c < s + m.at_.length → Pth T (if m.op then m.fi ++ n.fi else m.fi) (m.pr ++ n.pr ++ crN m.la n.fi) u c → Pth T m.fi m.pr u c := fun hc h => h.res (R := fun x => x < s + m.at_.length) (fun x hx lt => by
        split at hx
        · exact (List.mem_append.mp hx).elim id fun z => absurd (r2.fi x z).1 (by omega)
        · exact hx) (fun x y hp lt => by
        rcases List.mem_append.mp hp with hp | hp
        · rcases List.mem_append.mp hp with hp | hp
          · exact ⟨hp, (r1.pr _ hp).1.2⟩
          · exact absurd (r2.pr _ hp).2.1 (by show ¬ _ ≤ y; omega)
        · exact absurd (r2.fi y (crN_mem.mp hp).2).1 (by omega)) hc
    have high : ∀ {u : List Str} {c : Nat}, Pth T (if m.op then m.fi ++ n.fi else m.fi) (m.pr ++ n.pr ++ crN m.la n.fi) u c → s + m.at_.length ≤ c → ∃ u1 u2, u = u1 ++ u2 ∧ Lg a u1 ∧ Pth T n.fi n.pr u2 c := fun h => by
      induction h with
      | @one x y h t =>
        intro le
        split at h
        · rename_i o
          rcases List.mem_append.mp h with h | h
          · exact absurd (r1.fi x h).2 (by omega)
          · exact ⟨[], _, rfl, (ih1 []).mpr (.inl ⟨rfl, o⟩), .one h t⟩
        · exact absurd (r1.fi x h).2 (by omega)
      | @more w x y z h hp t ihw =>
        intro le
        rcases List.mem_append.mp hp with hp | hp
        · rcases List.mem_append.mp hp with hp | hp
          · exact absurd (r1.pr _ hp).2.2 (by show ¬ y < _; omega)
          · obtain ⟨u1, u2, rfl, l1, p2⟩ := ihw (r2.pr _ hp).1.1
            exact ⟨u1, u2 ++ [z], List.append_assoc _ _ _, l1, .more p2 hp t⟩
        · have hp' := crN_mem.mp hp
          exact ⟨w, [z], rfl, (ih1 w).mpr (.inr ⟨x, hp'.1, low (r1.la x hp'.1).2 h⟩), .one hp'.2 t⟩
    constructor
    · rintro ⟨u, v, rfl, hu, hv⟩
      rcases (ih1 u).mp hu with ⟨rfl, o1⟩ | ⟨c, hc, pu⟩
      · rcases (ih2 v).mp hv with ⟨rfl, o2⟩ | ⟨d, hd, pv⟩
        · exact .inl ⟨rfl, by rw [o1, o2]; rfl⟩
        · refine .inr ⟨d, inB d hd, ?_⟩
          rw [List.nil_append]
          refine pv.mono (fun x h => ?_) fun _ z => List.mem_append_left _ (List.mem_append_right _ z)
          rw [if_pos o1]
          exact List.mem_append_right _ h
      · rcases (ih2 v).mp hv with ⟨rfl, o2⟩ | ⟨d, hd, pv⟩
        · refine .inr ⟨c, ?_, by rw [List.append_nil]; exact upA pu⟩
          rw [if_pos o2]
          exact List.mem_append_left _ hc
        · exact .inr ⟨d, inB d hd, (upA pu).cat (fun b hb => List.mem_append_right _ (crN_mem.mpr ⟨hc, hb⟩)) (fun _ z => List.mem_append_left _ (List.mem_append_right _ z)) pv⟩
    · rintro (⟨rfl, o⟩ | ⟨c, hc, h⟩)
      · obtain ⟨o1, o2⟩ := Bool.and_eq_true_iff.mp o
        exact ⟨[], [], rfl, (ih1 []).mpr (.inl ⟨rfl, o1⟩), (ih2 []).mpr (.inl ⟨rfl, o2⟩)⟩
      · have two : c ∈ n.la → Lg (.join a b) w := fun hc => by
          obtain ⟨u1, u2, rfl, l1, p2⟩ := high h (r2.la c hc).1
          exact ⟨u1, u2, rfl, l1, (ih2 u2).mpr (.inr ⟨c, hc, p2⟩)⟩
        split at hc
        · rename_i o2
          rcases List.mem_append.mp hc with hc | hc
          · exact ⟨w, [], (List.append_nil w).symm, (ih1 w).mpr (.inr ⟨c, hc, low (r1.la c hc).2 h⟩), (ih2 []).mpr (.inl ⟨rfl, o2⟩)⟩
          · exact two hc
        · exact two hc
/-! ### the machine run -/
def tkM (m : Mc) (a : Nat) (x : Str) : Bool := match m.at_[a]? with
  | some p => atB p x
  | none => false
def behM (m : Mc) (ps : List Nat) (a : Nat) : Bool := ps.any fun p => decide ((p, a) ∈ m.pr)
def startM (m : Mc) (x : Str) : List Nat := m.fi.filter fun a => tkM m a x
def afterM (m : Mc) (ps : List Nat) (x : Str) : List Nat := (List.range m.at_.length).filter fun a => tkM m a x && behM m ps a
def doneM (m : Mc) (ps : List Nat) : Bool := ps.any fun p => decide (p ∈ m.la)
def runM (m : Mc) : List Str → List Nat
  | [] => []
  | x :: r => r.foldl (afterM m) (startM m x)
def accM (m : Mc) (w : List Str) : Bool := if w = [] then m.op else doneM m (runM m w)
theorem tkM_lt {m : Mc} {a : Nat} {x : Str} (h : tkM m a x = true) : a < m.at_.length := by
  unfold tkM at h
  cases e : m.at_[a]? with
  | none => rw [e] at h; cases h
  | some p => exact (List.getElem?_eq_some_iff.mp e).1
theorem after_mem {m : Mc} {ps : List Nat} {x : Str} {b : Nat} : b ∈ afterM m ps x ↔ tkM m b x = true ∧ ∃ a ∈ ps, (a, b) ∈ m.pr := by
  unfold afterM
  rw [List.mem_filter, List.mem_range, Bool.and_eq_true, behM, List.any_eq_true]
  constructor
  · rintro ⟨_, h1, a, ha, h2⟩
    exact ⟨h1, a, ha, of_decide_eq_true h2⟩
  · rintro ⟨h1, a, ha, h2⟩
    exact ⟨tkM_lt h1, h1, a, ha, decide_eq_true h2⟩
theorem run_snoc {m : Mc} {w : List Str} {x : Str} (h : w ≠ []) : runM m (w ++ [x]) = afterM m (runM m w) x := by
  cases w with
  | nil => exact absurd rfl h
  | cons y r =>
    show (r ++ [x]).foldl _ _ = _
    rw [List.foldl_append]
    rfl
theorem run_mem {m : Mc} : ∀ {w : List Str} {a : Nat}, w ≠ [] → (a ∈ runM m w ↔ Pth (tkM m) m.fi m.pr w a) := fun {w} => by
  induction w using list_snoc_ind with
  | nil => intro a h; exact absurd rfl h
  | snoc w x ih =>
    intro a _
    by_cases e : w = []
    · subst e
      show a ∈ m.fi.filter _ ↔ _
      rw [List.mem_filter]
      constructor
      · rintro ⟨h1, h2⟩
        exact .one h1 h2
      · intro h
        generalize hw : [] ++ [x] = u at h
        cases h with
        | one h t => cases hw; exact ⟨h, t⟩
        | more h hp t => exact absurd (List.append_inj_left' hw rfl).symm h.ne
    · rw [run_snoc e, after_mem]
      constructor
      · rintro ⟨h1, b, hb, h2⟩
        exact .more ((ih e).mp hb) h2 h1
      · intro h
        generalize hw : w ++ [x] = u at h
        cases h with
        | one h t =>
          have z := List.append_inj_left' (hw.trans (List.nil_append _).symm) rfl
          exact absurd z e
        | more h hp t =>
          have z1 := List.append_inj_left' hw rfl
          have z2 := List.append_inj_right' hw rfl
          cases z2
          subst z1
          exact ⟨t, _, (ih e).mpr h, hp⟩
theorem acc_iff {t : Tr} {w : List Str} : accM (mcT t 0) w = true ↔ Lg t w := by
  rw [glu t 0 (tkM (mcT t 0)) (fun i p h x => by unfold tkM; rw [Nat.zero_add, h]) w]
  unfold accM
  by_cases e : w = []
  · subst e
    rw [if_pos rfl]
    constructor
    · intro h
      exact .inl ⟨rfl, h⟩
    · rintro (⟨_, h⟩ | ⟨a, _, h⟩)
      · exact h
      · exact absurd rfl h.ne
  · rw [if_neg e, doneM, List.any_eq_true]
    constructor
    · rintro ⟨a, ha, h⟩
      exact .inr ⟨a, of_decide_eq_true h, (run_mem e).mp ha⟩
    · rintro (⟨z, _⟩ | ⟨a, ha, h⟩)
      · exact absurd z e
      · exact ⟨a, (run_mem e).mpr h, decide_eq_true ha⟩
end DL

/-! EZ: pairs of numbers as keys (own work). -/
namespace DL
open PySem L2 PySem.W
/-! ### data: keys are pairs of numbers -/
theorem noP_ok {K : PySem.W.Frag} (h : fNoP K = true) : NoP K := fun a o its n hl hc hd => by
  have hm : ∀ {K : PySem.W.Frag}, K.lookup a = some o → (a, o) ∈ K := fun {K} => by
    induction K with
    | nil => intro h; cases h
    | cons p r ih =>
      obtain ⟨b, x⟩ := p
      intro h
      rw [List.lookup_cons] at h
      split at h
      · rename_i q
        cases h
        rw [beq_iff_eq.mp q]
        exact List.mem_cons_self
      · exact List.mem_cons_of_mem _ (ih h)
  have := List.all_eq_true.mp h _ (hm hl)
  obtain ⟨cls, dict, data, sl⟩ := o
  cases hc
  cases hd
  have t : (!(decide (("tuple" : String) = "tuple") && isII its.toList)) = true := this
  cases e : isII its.toList with
  | false => rfl
  | true => rw [e] at t; cases t
section
variable {K : PySem.W.Frag} {B F F0 : Hp} {ro : Ro} {ka k1 k2 k3 kr : Cells} {ta : List (V × W)} {sg : L2.St} {H H' : Hp} {te tf tg td ty tk tv : TE} {tt : TT} {w : W} {a : Addr} {b : Bool}
theorem sq_pair {i j : Int} (np : NoP K) (h : SqT K F a [.int i, .int j]) : Rd F a (.tup [.int i, .int j]) := by
  rcases h with h | ⟨o, its, n, h1, h2, h3, _, h4⟩
  · exact h
  · exfalso
    have z := np a o its n h1 h2 h3
    generalize its.toList = l at z h4
    cases h4 with
    | cons r1 t =>
      cases t with
      | cons r2 t2 =>
        cases t2
        obtain ⟨_, rfl⟩ := r1
        obtain ⟨_, rfl⟩ := r2
        cases z
theorem rd_tup {xs : List V} (n : Nz F) (e : Exz F H) (h : Rd F a (.tup xs)) : H a = some (.tup xs) := by
  rcases h with h | ⟨o, h⟩
  · exact e.at h rfl
  · have := n a _ h
    cases this
/-- a pair of numbers as a key -/
def prK (p : Nat × Nat) : List Key := [.inl (p.1 : Int), .inl (p.2 : Int)]
def prD (p : Nat × Nat) : D := .tup [.int (p.1 : Int), .int (p.2 : Int)]
theorem pr_at {p : Nat × Nat} {v : V} (np : NoP K) (e : EnF K B F ro ka ta sg H) (h : WOk K B F v (.val (prD p))) : ∃ a, v = .ref a ∧ H a = some (.tup ((prK p).map kV)) := by
  obtain ⟨a, xs, rfl, h1, x, ys, rfl, hx, y, zs, rfl, hy, hz⟩ := h
  cases hx
  cases hy
  cases hz
  exact ⟨a, rfl, rd_tup e.nz e.fz (sq_pair np h1)⟩
/-- (i, j) in d -/
theorem ev_dinP {p : Nat × Nat} {ds : List (List Key × D)} (np : NoP K) (h : EvD K ty ro ka (.val (prD p)) k1) (h2 : EvD K td ro k1 (.val (.dit ds)) k2) : EvD K (tDIn ty td) ro ka (.val (.bl (getT ds (prK p)).isSome)) k2 := fun B F0 ta sg H Q e q =>
  h B F0 ta sg H _ e fun u H1 e1 => h2 B F0 _ sg H1 _ e1 fun v H2 e2 => by
    obtain ⟨F, g, ef⟩ := id e2
    obtain ⟨c, rfl, hc⟩ := pr_at np ef (ef.tm (u, .val (prD p)) (List.mem_cons_of_mem _ List.mem_cons_self))
    obtain ⟨a, xs, rfl, h3, h4⟩ := ef.tm (v, .val (.dit ds)) List.mem_cons_self
    have hg := (rpt_pt.mp h4).get (prK p)
    refine ⟨a, getT xs (prK p), rfl, .inr ⟨xs, prK p, c, ef.fz.rd ef.nz h3, rfl, hc, rfl⟩, q _ _ ?_⟩
    have e5 := (e2.held (ta' := ta) fun p hp => List.mem_cons_of_mem _ (List.mem_cons_of_mem _ hp)).push_imm (v := .bl (getT xs (prK p)).isSome) (w := .val (.bl (getT xs (prK p)).isSome)) fun _ => rfl
    cases hd : getT ds (prK p) with
    | none => rw [hg.1 hd] at e5 ⊢; exact e5
    | some d =>
      obtain ⟨x, hx, _⟩ := hg.2 d hd
      rw [hx] at e5 ⊢
      exact e5
end
end DL

/-! FA: a list comprehension with two fors, by data, for the library's reading tLc2 (own work). -/
namespace DL
open PySem L2 PySem.W
section
variable {K : PySem.W.Frag} {B F F0 : Hp} {ro : Ro} {ka k1 k2 k3 kr : Cells} {ta : List (V × W)} {sg : L2.St} {H H' : Hp} {te : TE}
/-- [d x y for x in .. for y in ..] -/
theorem evn_lc2 {α β : Type} {wi wi2 : TI} {xs : List α} {ys : List β} {f : α → W} {f2 : β → W} {d : α → β → D} {j j2 : Nat} {vs : List Nat} (h : EvI K wi ro ka (xs.map f) (fun _ => True) k1) (hj : j ∈ vs) (few : xs.length * ys.length < 100000)
    (h2 : ∀ x k, EvI K wi2 ((wipeR ro vs).set j (some (f x))) k (ys.map f2) (fun _ => True) k) (he : ∀ x y k, EvD K te (((wipeR ro vs).set j (some (f x))).set j2 (some (f2 y))) k (.val (d x y)) k) :
    EvN K (tLc2 wi (gName j) tYes wi2 (gName j2) tYes te vs [j2]) ro ka (.lst (xs.flatMap fun x => ys.map (d x))) k1 := fun B F0 ta sg H Q e q =>
  h B F0 ta sg H _ e fun J ta' H1 hta e1 hgo hst => fun Dl hD => by
    let acc : Nat → List D := fun i => (xs.take i).flatMap fun x => ys.map (d x)
    have alen : ∀ i, (acc i).length = (xs.take i).length * ys.length := fun i => by
      show ((xs.take i).flatMap fun x => ys.map (d x)).length = _
      generalize xs.take i = zs
      induction zs with
      | nil => simp
      | cons z zs ih =>
        rw [List.flatMap_cons, List.length_append, ih, List.length_map, List.length_cons, Nat.succ_mul]
        omega
    let P : Nat → Hp → Prop := fun i H => En K B F0 ro (k1 ++ [(Dl, .lst (acc i))]) ta' sg H
    have p0 : P 0 (upd H1 Dl (.lst [])) := by
      obtain ⟨F, g, e1⟩ := e1
      exact ⟨F, g, e1.cell (o := .lst []) hD (n := .lst []) ⟨[], upd_same, rfl⟩⟩
    have wl : (xs.map f).length = xs.length := List.length_map _
    have yl : (ys.map f2).length = ys.length := List.length_map _
    refine ⟨fun i m H => m = xs.length - i ∧ i ≤ xs.length ∧ P i H, ⟨xs.length, by simp, Nat.zero_le _, p0⟩, ?_⟩
    rintro i m H2 ⟨rfl, hi, e2⟩
    by_cases hlt : i < xs.length
    · have hx := List.getElem?_eq_getElem hlt
      generalize xs[i] = x at hx
      have hw : (xs.map f)[i]? = some (f x) := by rw [List.getElem?_map, hx]; rfl
      obtain ⟨g1, g2⟩ := hgo i _ ro (k1 ++ [(Dl, .lst (acc i))]) ta' sg H2 hw trivial (fun p hp => hp) e2
      refine .inr ⟨g1, P (i + 1), fun H' z => ⟨xs.length - (i + 1), by omega, rfl, hlt, z⟩, fun xv H3 y => ?_⟩
      have e3 := g2 xv H3 y
      refine ⟨wipe_set sg vs hj xv, ?_⟩
      obtain ⟨F3, gF3, eF3⟩ := e3
      have ln0 : sg.length = ro.length := by obtain ⟨_, _, e0⟩ := e; exact e0.ln
      have slots : ∀ {F : Hp}, Gr B F3 F → ∀ (a : Nat) w, ro[a]? = some (some w) → ∃ v, sg[a]? = some (some v) ∧ WOk K B F v w := fun {F} g a w ha => by
        obtain ⟨v, h1, h2⟩ := eF3.sl a w ha
        exact ⟨v, h1, wok_gr eF3.nz g h2⟩
      have e4 : En K B F3 ((wipeR ro vs).set j (some (f x))) (k1 ++ [(Dl, .lst (acc i))]) ta' ((wipe sg vs).set j (some xv)) H3 :=
        ⟨F3, Gr.refl _ _, ((wipe_en (vs := vs) eF3).set (eF3.tm _ List.mem_cons_self) j).held fun p hp => List.mem_cons_of_mem _ hp⟩
      show wi2 _ _ _
      refine h2 x _ B F3 ta' _ H3 _ e4 fun J2 ta2 H4 hta2 e5 hgo2 hst2 => ?_
      let P2 : Nat → Hp → Prop := fun n H => En K B F3 ((wipeR ro vs).set j (some (f x))) (k1 ++ [(Dl, .lst (acc i ++ (ys.take n).map (d x)))]) ta2 ((wipe sg vs).set j (some xv)) H
      have q0 : P2 0 H4 := by
        show En _ _ _ _ (k1 ++ [(Dl, .lst (acc i ++ []))]) _ _ _
        rw [List.append_nil]
        exact e5
      refine ⟨fun n m H => m = ys.length - n ∧ n ≤ ys.length ∧ P2 n H, ⟨ys.length, by simp, Nat.zero_le _, q0⟩, ?_⟩
      rintro n m2 H5 ⟨rfl, hn, e6⟩
      by_cases hlt2 : n < ys.length
      · have hy := List.getElem?_eq_getElem hlt2
        generalize ys[n] = y at hy
        have hw2 : (ys.map f2)[n]? = some (f2 y) := by rw [List.getElem?_map, hy]; rfl
        obtain ⟨g3, g4⟩ := hgo2 n _ _ _ ta2 _ H5 hw2 trivial (fun p hp => hp) e6
        refine .inr ⟨g3, P2 (n + 1), fun H' z => ⟨ys.length - (n + 1), by omega, rfl, hlt2, z⟩, fun yv H6 yy => ?_⟩
        obtain ⟨F4, gF4, eF4⟩ := g4 yv H6 yy
        refine ⟨wipe_set _ [j2] List.mem_cons_self yv, ?_⟩
        have e7 : En K B F4 (((wipeR ro vs).set j (some (f x))).set j2 (some (f2 y))) (k1 ++ [(Dl, .lst (acc i ++ (ys.take n).map (d x)))]) ta2 ((wipe ((wipe sg vs).set j (some xv)) [j2]).set j2 (some yv)) H6 := by
          have z : En K B F4 ((wipeR ((wipeR ro vs).set j (some (f x))) [j2]).set j2 (some (f2 y))) (k1 ++ [(Dl, .lst (acc i ++ (ys.take n).map (d x)))]) ta2 ((wipe ((wipe sg vs).set j (some xv)) [j2]).set j2 (some yv)) H6 :=
            ⟨F4, Gr.refl _ _, ((wipe_en (vs := [j2]) eF4).set (eF4.tm _ List.mem_cons_self) j2).held fun p hp => List.mem_cons_of_mem _ hp⟩
          have q : (wipeR ((wipeR ro vs).set j (some (f x))) [j2]).set j2 (some (f2 y)) = ((wipeR ro vs).set j (some (f x))).set j2 (some (f2 y)) := List.set_set ..
          exact q ▸ z
        show te _ _ _
        refine he x y _ B F4 ta2 _ H6 _ e7 fun z H7 ⟨F5, g5, e8⟩ => ?_
        have hc : (k1 ++ [(Dl, Nd.lst (acc i ++ (ys.take n).map (d x)))])[k1.length]? = some (Dl, Nd.lst (acc i ++ (ys.take n).map (d x))) := by simp
        obtain ⟨zs, h3, h4⟩ := (e8.ce _ (List.mem_of_getElem? hc)).2.2
        have hz := e8.tm (z, .val (d x y)) List.mem_cons_self
        have e9 := e8.write (o := .lst (zs ++ [z])) (n' := .lst (acc i ++ (ys.take n).map (d x) ++ [d x y])) hc ⟨_, upd_same, rpl_app h4 ⟨z, [], rfl, hz, rfl⟩⟩
        rw [List.set_append_right _ _ (Nat.le_refl _), Nat.sub_self] at e9
        have grow : acc i ++ (ys.take (n + 1)).map (d x) = acc i ++ (ys.take n).map (d x) ++ [d x y] := by
          rw [take_succ_some hy, List.map_append, List.append_assoc]
          rfl
        refine ⟨zs, h3, ?_, ?_⟩
        · have l1 := rpl_len h4
          have l2 := alen i
          rw [List.length_append, List.length_map, List.length_take] at l1
          rw [List.length_take] at l2
          have l3 : i * ys.length + ys.length ≤ xs.length * ys.length := by
            rw [← Nat.succ_mul]
            exact Nat.mul_le_mul_right _ hlt
          have l4 : min i xs.length = i := Nat.min_eq_left hi
          rw [l4] at l2
          have big : 100000 ≤ sizeLine := by decide
          omega
        · show En _ _ _ _ (k1 ++ [(Dl, .lst (acc i ++ (ys.take (n + 1)).map (d x)))]) _ _ _
          rw [grow]
          exact ⟨F5, gF4.trans g5, (e9.held (ta' := ta2) fun p hp => List.mem_cons_of_mem _ hp).frame (by obtain ⟨_, _, e0⟩ := e4; exact e0.ln) fun a w ha => by
            obtain ⟨v, h5, h6⟩ := eF4.sl a w ha
            exact ⟨v, h5, wok_gr eF4.nz g5 h6⟩⟩
      · have en : n = ys.length := by omega
        subst en
        refine .inl ⟨hst2 _ _ _ ta2 _ H5 (by rw [yl]; exact Nat.le_refl _) trivial (fun p hp => hp) e6, ?_⟩
        have grow : acc (i + 1) = acc i ++ (ys.take ys.length).map (d x) := by
          show (xs.take (i + 1)).flatMap _ = _
          rw [take_succ_some hx, List.flatMap_append, List.take_length]
          simp
          rfl
        show En _ _ _ _ (k1 ++ [(Dl, .lst (acc (i + 1)))]) _ _ _
        rw [grow]
        obtain ⟨F6, g6, e10⟩ := e6
        exact ⟨F6, gF3.trans g6, (e10.held (ta' := ta') hta2).frame ln0 (slots g6)⟩
    · have ei : i = xs.length := by omega
      subst ei
      have all : acc xs.length = xs.flatMap fun x => ys.map (d x) := by
        show (xs.take xs.length).flatMap _ = _
        rw [List.take_length]
      have e2' : En K B F0 ro (k1 ++ [(Dl, .lst (acc xs.length))]) ta' sg H2 := e2
      rw [all] at e2'
      exact .inl ⟨hst _ ro _ ta' sg H2 (by rw [wl]; exact Nat.le_refl _) trivial (fun p hp => hp) e2, q Dl H2 (e2'.held hta)⟩
end
end DL

/-! FB: machines as data (own work). -/
namespace DL
open PySem L2 PySem.W
def nmD (xs : List Nat) : List D := xs.map fun n : Nat => D.int (n : Int)
def atD (p : Bool × List Str) : D := .tup [.bl p.1, .tup (stD p.2)]
/-- what reading a tree tells -/
def rdT (m : Mc) : D := .tup [.lst (m.at_.map atD), .lst (nmD m.fi), .lst (nmD m.la), .lst (m.pr.map prD), .bl m.op]
def prsD (ps : List (Nat × Nat)) : List (List Key × D) := ps.foldl (fun acc p => putT acc (prK p) (D.bl true)) []
structure Fits (m : Mc) : Prop where
  a : m.at_.length ≤ 300
  f : m.fi.length ≤ 300
  l : m.la.length ≤ 300
  p : m.pr.length ≤ 90000
/-- a pattern small enough for its machine, and so are its parts -/
def Tr.sm : Tr → Prop
  | .at k ns => ns.length ≤ 1000
  | .join a b => a.sm ∧ b.sm ∧ ∀ s, Fits (mcT (.join a b) s)
  | .either a b => a.sm ∧ b.sm ∧ ∀ s, Fits (mcT (.either a b) s)
  | .rep a => a.sm ∧ ∀ s, Fits (mcT (.rep a) s)
  | .opt a => a.sm ∧ ∀ s, Fits (mcT (.opt a) s)
theorem Tr.sm.fits {t : Tr} (h : t.sm) (s : Nat) : Fits (mcT t s) := by
  cases t with
  | «at» k ns => exact ⟨by show 1 ≤ 300; decide, by show 1 ≤ 300; decide, by show 1 ≤ 300; decide, by show 0 ≤ 90000; decide⟩
  | join a b => exact h.2.2 s
  | either a b => exact h.2.2 s
  | rep a => exact h.2 s
  | opt a => exact h.2 s
/-! sizes -/
def Tr.ats : Tr → Nat
  | .at _ _ => 1
  | .join a b => a.ats + b.ats
  | .either a b => a.ats + b.ats
  | .rep a => a.ats
  | .opt a => a.ats
def Tr.ops : Tr → Nat
  | .at _ _ => 0
  | .join a b => a.ops + b.ops + 1
  | .either a b => a.ops + b.ops
  | .rep a => a.ops + 1
  | .opt a => a.ops
theorem crN_len (xs ys : List Nat) : (crN xs ys).length = xs.length * ys.length := by
  unfold crN
  induction xs with
  | nil => simp
  | cons x xs ih =>
    rw [List.flatMap_cons, List.length_append, ih, List.length_map, List.length_cons, Nat.succ_mul]
    omega
theorem mc_at_len : ∀ (t : Tr) (s : Nat), (mcT t s).at_.length = t.ats
  | .at _ _, _ => rfl
  | .rep a, s => mc_at_len a s
  | .opt a, s => mc_at_len a s
  | .either a b, s => by
    show (_ ++ _ : List _).length = _
    rw [List.length_append, mc_at_len a, mc_at_len b]
    rfl
  | .join a b, s => by
    show (_ ++ _ : List _).length = _
    rw [List.length_append, mc_at_len a, mc_at_len b]
    rfl
theorem mc_fl_len : ∀ (t : Tr) (s : Nat), (mcT t s).fi.length ≤ t.ats ∧ (mcT t s).la.length ≤ t.ats
  | .at _ _, _ => ⟨Nat.le_refl _, Nat.le_refl _⟩
  | .rep a, s => mc_fl_len a s
  | .opt a, s => mc_fl_len a s
  | .either a b, s => by
    have h1 := mc_fl_len a s
    have h2 := mc_fl_len b (s + (mcT a s).at_.length)
    refine ⟨?_, ?_⟩
    · show (_ ++ _ : List _).length ≤ a.ats + b.ats
      rw [List.length_append]
      omega
    · show (_ ++ _ : List _).length ≤ a.ats + b.ats
      rw [List.length_append]
      omega
  | .join a b, s => by
    have h1 := mc_fl_len a s
    have h2 := mc_fl_len b (s + (mcT a s).at_.length)
    refine ⟨?_, ?_⟩
    · show (ite _ _ _ : List Nat).length ≤ a.ats + b.ats
      split
      · rw [List.length_append]; omega
      · omega
    · show (ite _ _ _ : List Nat).length ≤ a.ats + b.ats
      split
      · rw [List.length_append]; omega
      · omega
theorem mul_le {a b c : Nat} (h1 : a ≤ c) (h2 : b ≤ c) : a * b ≤ c * c := Nat.mul_le_mul h1 h2
theorem mc_pr_len : ∀ (t : Tr) (s n : Nat), t.ats ≤ n → (mcT t s).pr.length ≤ t.ops * (n * n)
  | .at _ _, _, _, _ => Nat.zero_le _
  | .opt a, s, n, h => mc_pr_len a s n h
  | .rep a, s, n, h => by
    have h1 := mc_pr_len a s n h
    have h2 := mc_fl_len a s
    have h0 : a.ats ≤ n := h
    show (_ ++ _ : List _).length ≤ (a.ops + 1) * (n * n)
    rw [List.length_append, crN_len, Nat.succ_mul]
    have := mul_le (Nat.le_trans h2.2 h0) (Nat.le_trans h2.1 h0)
    omega
  | .either a b, s, n, h => by
    have h0 : a.ats + b.ats ≤ n := h
    have h1 := mc_pr_len a s n (by omega)
    have h2 := mc_pr_len b (s + (mcT a s).at_.length) n (by omega)
    show (_ ++ _ : List _).length ≤ (a.ops + b.ops) * (n * n)
    rw [List.length_append, Nat.add_mul]
    omega
  | .join a b, s, n, h => by
    have h0 : a.ats + b.ats ≤ n := h
    have h1 := mc_pr_len a s n (by omega)
    have h2 := mc_pr_len b (s + (mcT a s).at_.length) n (by omega)
    have h3 := mc_fl_len a s
    have h4 := mc_fl_len b (s + (mcT a s).at_.length)
    show (_ ++ _ ++ _ : List _).length ≤ (a.ops + b.ops + 1) * (n * n)
    rw [List.length_append, List.length_append, crN_len, Nat.succ_mul, Nat.add_mul]
    have := mul_le (c := n) (Nat.le_trans h3.2 (by omega)) (Nat.le_trans h4.1 (by omega))
    omega
/-- all atoms hold few names -/
def Tr.few : Tr → Prop
  | .at _ ns => ns.length ≤ 1000
  | .join a b => a.few ∧ b.few
  | .either a b => a.few ∧ b.few
  | .rep a => a.few
  | .opt a => a.few
theorem fits_of {t : Tr} {n : Nat} (h : t.ats ≤ n) (hn : n ≤ 300) (hp : t.ops * (n * n) ≤ 90000) (s : Nat) : Fits (mcT t s) :=
  ⟨by rw [mc_at_len]; omega, by have := (mc_fl_len t s).1; omega, by have := (mc_fl_len t s).2; omega, Nat.le_trans (mc_pr_len t s n h) hp⟩
theorem sm_of : ∀ {t : Tr} {n : Nat}, t.few → t.ats ≤ n → n ≤ 300 → t.ops * (n * n) ≤ 90000 → t.sm
  | .at _ _, _, f, _, _, _ => f
  | .opt a, n, f, h, hn, hp => ⟨sm_of (t := a) f h hn hp, fits_of h hn hp⟩
  | .rep a, n, f, h, hn, hp => ⟨sm_of (t := a) f h hn (Nat.le_trans (Nat.mul_le_mul_right _ (Nat.le_succ _)) hp), fits_of h hn hp⟩
  | .either a b, n, f, h, hn, hp => by
    have h0 : a.ats + b.ats ≤ n := h
    have hp0 : (a.ops + b.ops) * (n * n) ≤ 90000 := hp
    exact ⟨sm_of f.1 (by omega) hn (Nat.le_trans (Nat.mul_le_mul_right _ (by omega)) hp0), sm_of f.2 (by omega) hn (Nat.le_trans (Nat.mul_le_mul_right _ (by omega)) hp0), fits_of h hn hp⟩
  | .join a b, n, f, h, hn, hp => by
    have h0 : a.ats + b.ats ≤ n := h
    have hp0 : (a.ops + b.ops + 1) * (n * n) ≤ 90000 := hp
    exact ⟨sm_of f.1 (by omega) hn (Nat.le_trans (Nat.mul_le_mul_right _ (by omega)) hp0), sm_of f.2 (by omega) hn (Nat.le_trans (Nat.mul_le_mul_right _ (by omega)) hp0), fits_of h hn hp⟩
section
variable {K : PySem.W.Frag} {ro : Ro} {ka k1 k2 : Cells} {te tf : TE}
/-- list + list, both frozen -/
theorem ev_catL {ds es : List D} (h : EvD K te ro ka (.val (.lst ds)) k1) (h2 : EvD K tf ro k1 (.val (.lst es)) k2) (hz : ds.length + es.length ≤ 100000) : EvD K (tOp (rAddU K) te tf) ro ka (.val (.lst (ds ++ es))) k2 := (evn_op h h2 (rvn_cat (b1 := false) (b2 := false) .vl .vl hz)).lst
theorem En.freeze_t {B F0 : Hp} {ta : List (V × W)} {sg : L2.St} {H : Hp} {a : Addr} {ds : List (List Key × D)} (e : En K B F0 ro (ka ++ [(a, .dit ds)]) ta sg H) : En K B F0 ro ka ((.ref a, .val (.dit ds)) :: ta) sg H := by
  obtain ⟨F, g, e⟩ := e
  obtain ⟨fa, ba, xs, ha, rl⟩ := e.ce (a, .dit ds) (by simp)
  have gg : Gr B F (upd F a (.dT xs)) := ⟨Sub.new fa, fun b h1 h2 => by
    have ne : b ≠ a := fun q => h2 (q ▸ ba)
    rw [upd_ne ne]
    exact h1⟩
  have nd2 := e.nd
  rw [List.map_append, List.nodup_append] at nd2
  refine ⟨upd F a (.dT xs), g.trans gg, ⟨fun b u h => ?_, fun b u h => ?_, e.fr, nd2.1, fun q hq => ?_, e.ln, fun i w h => ?_, fun q hq => ?_⟩⟩
  · by_cases hb : b = a
    · subst hb; rw [upd_same] at h; cases h; rfl
    · rw [upd_ne hb] at h; exact e.nz b u h
  · by_cases hb : b = a
    · subst hb; rw [upd_same] at h; cases h; exact .inl ha
    · rw [upd_ne hb] at h; exact e.fz b u h
  · obtain ⟨h1, h2, h3⟩ := e.ce q (List.mem_append_left _ hq)
    have nq : q.1 ≠ a := fun z => nd2.2.2 q.1 (List.mem_map.mpr ⟨q, hq, rfl⟩) a (by simp) z
    exact ⟨by rw [upd_ne nq]; exact h1, h2, ndok_gr e.nz gg h3⟩
  · obtain ⟨v, h1, h2⟩ := e.sl i w h
    exact ⟨v, h1, wok_gr e.nz gg h2⟩
  · rcases List.mem_cons.mp hq with rfl | hq
    · exact ⟨a, xs, rfl, .inl upd_same, RpT.mono gg.sub.exz e.nz _ _ rl⟩
    · exact wok_gr e.nz gg (e.tm q hq)
theorem EvN.dit {ds : List (List Key × D)} (h : EvN K te ro ka (.dit ds) k1) : EvD K te ro ka (.val (.dit ds)) k1 := fun B F0 ta sg H Q e q => h B F0 ta sg H Q e fun a H1 e1 => q _ _ e1.freeze_t
end
section
variable {K : PySem.W.Frag} {ro : Ro} {ka k1 k2 : Cells} {te tf : TE} {y : W}
theorem rpl_nms {F : Hp} : ∀ {ns : List Nat} {vs : List V}, RpL K F (nmD ns) vs → vs = ns.map fun n : Nat => V.int (n : Int)
  | [], _, h => h
  | n :: ns, _, ⟨x, ys, e, h1, h2⟩ => by
    cases h1
    rw [e, rpl_nms (ns := ns) h2]
    rfl
theorem inV_nms (n : Nat) : ∀ ns : List Nat, inV (.int (n : Int)) (ns.map fun n : Nat => V.int (n : Int)) = decide (n ∈ ns)
  | [] => rfl
  | m :: ns => by
    show (((m : Int) == (n : Int)) || inV (.int (n : Int)) (ns.map fun n : Nat => V.int (n : Int))) = _
    rw [inV_nms n ns, Bool.eq_iff_iff, Bool.or_eq_true, decide_eq_true_eq, decide_eq_true_eq, List.mem_cons, beq_iff_eq]
    exact ⟨fun h => h.elim (fun q => .inl (Int.ofNat_inj.mp q).symm) .inr, fun h => h.elim (fun q => .inl (Int.ofNat_inj.mpr q.symm)) .inr⟩
theorem flat_nms : ∀ ns : List Nat, (ns.map fun n : Nat => V.int (n : Int)).all flatV = true
  | [] => rfl
  | n :: ns => by
    rw [List.map_cons, List.all_cons, flat_nms ns]
    rfl
theorem rv_inN {neg tt b : Bool} {n : Nat} {ns : List Nat} (l : Lk ka y tt (nmD ns) b) : RvD K (rIn K neg) ka (.val (.int (n : Int))) y (.val (.bl (if neg then !decide (n ∈ ns) else decide (n ∈ ns)))) := fun B F0 ro ta sg H u v Q e h1 h2 q => by
  obtain ⟨F, g, ef⟩ := id e
  have hu := e.tm_int h1
  subst hu
  obtain ⟨a, xs, rfl, s1, r1⟩ := l.get ef (ef.tm _ h2)
  have ex := rpl_nms r1
  subst ex
  refine ⟨a, _, rfl, s1.sq, rfl, flat_nms ns, ?_⟩
  rw [inV_nms]
  exact q _ _ (e.push_imm fun _ => rfl)
/-- number in numbers -/
theorem ev_inN {tt b : Bool} {n : Nat} {ns : List Nat} (h : EvD K te ro ka (.val (.int (n : Int))) k1) (h2 : EvD K tf ro k1 y k2) (l : Lk k2 y tt (nmD ns) b) : EvD K (tOp (rInU K) te tf) ro ka (.val (.bl (decide (n ∈ ns)))) k2 := ev_op h h2 (rvd_r (rv_inN (neg := false) l))
/-- two truth values alike -/
theorem ev_eqB {i j : Bool} (h : EvD K te ro ka (.val (.bl i)) k1) (h2 : EvD K tf ro k1 (.val (.bl j)) k2) : EvD K (tOp (rEqP K false) te tf) ro ka (.val (.bl (i == j))) k2 := (ev_eq h h2 .v .v rfl rfl).to (by cases i <;> cases j <;> rfl)
end
/-! a pair among the keys -/
theorem prK_inj {p q : Nat × Nat} (h : prK p = prK q) : p = q := by
  obtain ⟨a, b⟩ := p
  obtain ⟨c, d⟩ := q
  unfold prK at h
  injection h with h1 h2
  injection h2 with h2 _
  injection h1 with h1
  injection h2 with h2
  rw [show a = c from Int.ofNat_inj.mp h1, show b = d from Int.ofNat_inj.mp h2]
theorem put_has {κ α : Type} [DecidableEq κ] (k k' : κ) (v : α) (xs : List (κ × α)) : (getT (putT xs k v) k').isSome = ((getT xs k').isSome || decide (k = k')) := by
  have has : ∀ ys : List (κ × α), (getT ys k').isSome = ys.any fun p => decide (p.1 = k') := fun ys => by
    unfold getT
    rw [Option.isSome_map]
    induction ys with
    | nil => rfl
    | cons y ys ih =>
      rw [List.find?_cons, List.any_cons]
      cases decide (y.1 = k') with
      | true => rfl
      | false => rw [Bool.false_or]; exact ih
  rw [has, has]
  unfold putT
  split
  · rename_i h
    have same : ∀ ys : List (κ × α), (ys.map (newAt k v)).any (fun p => decide (p.1 = k')) = ys.any fun p => decide (p.1 = k') := fun ys => by
      induction ys with
      | nil => rfl
      | cons y ys ih =>
        rw [List.map_cons, List.any_cons, List.any_cons, ih]
        congr 1
        unfold newAt
        split <;> rfl
    rw [same]
    by_cases e : k = k'
    · subst e
      have h' : (xs.any fun p => decide (p.1 = k)) = true := h
      rw [h']
      rfl
    · rw [decide_eq_false e, Bool.or_false]
  · rw [List.any_append]
    simp
theorem prs_in (ps : List (Nat × Nat)) (p : Nat × Nat) : (getT (prsD ps) (prK p)).isSome = decide (p ∈ ps) := by
  have key : ∀ (ps : List (Nat × Nat)) (acc : List (List Key × D)), (getT (ps.foldl (fun acc p => putT acc (prK p) (D.bl true)) acc) (prK p)).isSome = ((getT acc (prK p)).isSome || decide (p ∈ ps)) := by
    intro ps
    induction ps with
    | nil => intro acc; simp
    | cons q ps ih =>
      intro acc
      rw [List.foldl_cons, ih, put_has, Bool.or_assoc]
      congr 1
      rw [Bool.eq_iff_iff, Bool.or_eq_true, decide_eq_true_eq, decide_eq_true_eq, decide_eq_true_eq, List.mem_cons]
      exact ⟨fun h => h.elim (fun z => .inl (prK_inj z).symm) .inr, fun h => h.elim (fun z => .inl (by rw [z])) .inr⟩
  have := key ps []
  rw [show (getT ([] : List (List Key × D)) (prK p)).isSome = false from rfl, Bool.false_or] at this
  exact this
theorem EvI.ws {K : PySem.W.Frag} {wi : TI} {ro : Ro} {ka k1 : Cells} {ws ws' : List W} {C : Cells → Prop} (h : EvI K wi ro ka ws C k1) (e : ws = ws') : EvI K wi ro ka ws' C k1 := e ▸ h
end DL

/-! FC: where the words of a pattern end (own work). -/
namespace DL
open PySem L2 PySem.W
/-- steps one behind another -/
inductive Stp (R : Nat → Nat → Prop) (s : Nat) : Nat → Prop where
  | nil : Stp R s s
  | snoc {m k : Nat} (h : Stp R s m) (hr : R m k) : Stp R s k
end DL

/-! FD: {x: True for x in xs}, xs a list of tuples: the library's DictComp_goesN with the hand layer's state as what holds at each turn (own work). -/
namespace DL
open PySem L2 PySem.W PyProof.Rows
section
variable {X : Cx}
/-- a tuple of numbers and texts put as a key -/
theorem put_tup {pins : List (Addr × Obj)} {sg : L2.St} {H : Hp} {s : Shared} {E : Value → Shared → Prop} {A : Around} {D b : Addr} {old : List (List Key × V)} {k : List Key} {v : V} {r : Value} {Q : Unit → Shared → Prop} (room : A.units < cLine) (I : L2.Inv X pins sg H s)
    (hD : H D = some (.dT old)) (hb : H b = some (.tup (k.map kV))) (few : old.length < sizeLine) (rv : RelV v r) (q : ∀ h' t, L2.Inv X pins sg (upd H D (.dT (putK old k v))) { s with heap := h', toks := t } → Heap.SameBut D s.heap h' → Q () { s with heap := h', toks := t }) :
    wpAny (model X.prog X.w) A (dictSet D (.ref b) r) Q E s := by
  obtain ⟨_, sys, xs, rel, now⟩ := dt_of I.hok hD
  have size : (putK old k v).length ≤ sizeLine := Nat.le_trans (length_putK old k v) few
  refine wpAny_dictSet_heap (knd := tupleKind (mixKind X.prog X.w)) room (key_of I.hok hb) now (fun h' then_ same => q h' _ ?_ same) (hsz := (Paired.length rel).symm ▸ Nat.le_of_lt few)
  obtain ⟨o, es, ep, ho, p1, p2, p3, _, p4⟩ := then_
  have still : ∀ {c : Addr} {ys : List V}, H c = some (.tup ys) → (upd H D (.dT (putK old k v))) c = some (.tup ys) := fun {c ys} e => (upd_ne fun z => by rw [z, hD] at e; cases e).trans e
  exact d_write I (hD ▸ trivial) same ⟨o, ho⟩ ⟨size, sys, _, (rel.put k hb rv).keeps fun c ys e => still e, o, es, ep, ho, p1, p2, p3, p4⟩
/-- the keys put one behind another, each with v -/
def rowsT (v : V) (ks : List (List Key)) : List (List Key × V) := ks.foldl (fun d k => putK d k v) []
theorem rowsT_len {v : V} (ks : List (List Key)) : (rowsT v ks).length ≤ ks.length := by
  have all : ∀ (l : List (List Key)) (d : List (List Key × V)), (l.foldl (fun d k => putK d k v) d).length ≤ d.length + l.length := by
    intro l
    induction l with
    | nil => exact fun d => Nat.le_refl _
    | cons k l ih =>
      intro d
      have := ih (putK d k v)
      have := length_putK d k v
      simp only [List.foldl_cons, List.length_cons] at *
      omega
  simpa [rowsT] using all ks []
theorem rowsT_take {v : V} {ks : List (List Key)} {i : Nat} {k : List Key} (h : ks[i]? = some k) : rowsT v (ks.take (i + 1)) = putK (rowsT v (ks.take i)) k v := by
  rw [List.take_add_one, h]
  exact List.foldl_append ..
/-- {x: v for x in te}, te a list of the tuples at bs, which we know as ks -/
def tKeysT (K : PySem.W.Frag) (v : V) (te : TE) : TE := fun σ H Q => te σ H fun x H1 => ∃ (l : Addr) (bs : List Addr) (ks : List (List Key)), x = .ref l ∧ SqL K H1 l (bs.map V.ref) ∧ ks.length = bs.length ∧ (∀ (i : Nat) (b : Addr) (k : List Key), bs[i]? = some b → ks[i]? = some k → H1 b = some (.tup (k.map kV))) ∧
  bs.length < sizeLine ∧ ∀ D, H1 D = none → Q (.ref D) (upd H1 D (.dT (rowsT v ks)))
theorem vals_refs {bs : List Addr} {its : List Value} (h : Vals (bs.map V.ref) its) : its = bs.map Value.ref := by
  induction bs generalizing its with
  | nil => cases h; rfl
  | cons b bs ih =>
    cases h with
    | cons r rr =>
      cases r
      rw [ih rr]
      rfl
theorem pe_keysT {y : Str} {py pz spos : Pos} {vx iter : Expr} {scope : Scope} {te : TE} {v : V} {r : Value} (room : X.A.units < cLine) (calm : X.calm = true) (he : PE X iter te) (rv : RelV v r) (hv : ∀ (env : Env) (s : Shared) (Q : Value → Shared → Prop) (E : Value → Shared → Prop), Q r s → wpAny (model X.prog X.w) X.A (eval vx env) Q E s)
    (clo : closureFor scope X.env = pure []) (nm : (scope.names.all fun z => decide (z.2 = .local) && decide (scope.names.lookup z.1 = some .local)) = true) (lk : scope.names.lookup y = some .local) (fn : scope.kind = .function) (hd : (y == ("__debug__" : Str)) = false := by decide) (hs : ∀ x, foldedSetIterable iter X.env x = pure x := by intro _; rfl) :
    PE X (.DictComp (.Name y py) vx [⟨.Name y pz, iter, [], 0⟩] scope spos) (tKeysT X.K v te) where
  run pins s σ H Q I h := by
    have loc : ∀ C, (compEnvC scope [] C X.env).kindOf y = some .local := fun C => by
      show ((relabel scope X.env).names).lookup y = some .local
      exact lookup_relabel_local lk
    have kd : ∀ C, (compEnvC scope [] C X.env).scope.kind = .function := fun C => fn
    have each : ∀ z ∈ scope.names, z.2 = .local ∧ scope.names.lookup z.1 = some .local := fun z m => by simpa using List.all_eq_true.mp nm z m
    refine DictComp_goesN clo (fun z m => by rw [(each z m).1]; decide) fn (fun z m _ => (each z m).2) (thn (he.run pins s σ H _ I h) ?_) hs
    rintro u s1 ⟨x, H1, I1, rx, l, bs, ks, rfl, hq, hl, tups, few, q⟩
    cases rx
    obtain ⟨its, vals, lst, _⟩ := I1.list hq
    have ei := vals_refs vals
    have low : l < s1.heap.objs.size := lst.lt
    refine wpAny_pyIter_list lst.isList ?_
    have I2 : L2.Inv X pins σ H1 { s1 with heap := s1.heap.push { cls := .type "list_iterator", data := .fields #[.ref l, .int 0 0] } } := I1.kept (t' := s1.toks) fun b o e => Heap.get?_push_of_some _ e
    generalize hit : s1.heap.objs.size = it at low
    generalize hs2 : ({ s1 with heap := s1.heap.push { cls := .type "list_iterator", data := .fields #[.ref l, .int 0 0] } } : Shared) = s2 at I2
    have size2 : s2.heap.objs.size = it + 1 := by rw [← hs2, ← hit]; exact Heap.size_push ..
    have iter2 : s2.heap.IsListIter it l 0 := by rw [← hs2, ← hit]; exact ⟨_, Heap.get?_push_size _ rfl, rfl, rfl⟩
    have lst2 : s2.heap.IsList l its.toArray := by rw [← hs2]; exact lst.isList.at fun o e => Heap.get?_push_of_some _ e
    have nIt : H1 it = none := I1.hok.fresh (Nat.le_of_eq hit)
    refine ⟨it, [it, l], [it], its.toArray.size, _, _, rfl, (Goes.list (I.ok.hd calm) it l (Nat.ne_of_lt low) its.toArray).toN, ⟨iter2, lst2⟩, fun D C s3 beg atD => ?_⟩
    have nD : H1 D = none := I2.hok.fresh beg.newD
    have nC : H1 C = none := I2.hok.fresh beg.newC
    have itD : it ≠ D := fun z => absurd beg.newD (by rw [size2, ← z]; exact Nat.not_succ_le_self _)
    have itC : it ≠ C := fun z => absurd beg.newC (by rw [size2, ← z]; exact Nat.not_succ_le_self _)
    have lD : l ≠ D := fun z => absurd beg.newD (by rw [size2, ← z]; exact Nat.not_le.mpr (Nat.lt_succ_of_lt low))
    have lC : l ≠ C := fun z => absurd beg.newC (by rw [size2, ← z]; exact Nat.not_le.mpr (Nat.lt_succ_of_lt low))
    let HD : Nat → Hp := fun i => upd H1 D (.dT (rowsT v (ks.take i)))
    have fIt : ∀ i, FpOk X pins (HD i) it := fun i => I1.fpOk (Nat.le_of_eq hit) ((upd_ne itD).trans nIt)
    have fC : ∀ i, FpOk X pins (HD i) C := fun i => I2.fpOk beg.newC ((upd_ne (Ne.symm beg.ne)).trans nC)
    have turned : ∀ {i : Nat} {b : Addr} {s' : Shared} {h' : Heap} {t : Nat}, L2.Inv X pins σ (HD i) s' → FpOk X pins (HD i) b → (∀ c o, c ≠ b → s'.heap.get? c = some o → h'.get? c = some o) → L2.Inv X pins σ (HD i) { s' with heap := h', toks := t } := fun J f k =>
      J.turned k f.1 f.2.1 f.2.2.2.1 f.2.2.2.2.1 f.2.2.2.2.2
    have sys : (D == sysModules) = false := beq_eq_false_iff_ne.mpr fun z => absurd (Nat.lt_of_lt_of_le I2.big beg.newD) (by rw [z]; exact Nat.lt_irrefl _)
    have begin_ : L2.Inv X pins σ (HD 0) s3 := by
      obtain ⟨h3, t3, e3⟩ := beg.only
      have := beg.old
      rw [e3] at this atD ⊢
      exact I2.laid this beg.newD ⟨Nat.zero_le _, sys, [], .nil, _, #[], 0, atD, ⟨rfl, rfl, rfl⟩, rfl, rfl, List.nodup_nil⟩
    refine ⟨fun i s' => (∃ m, s'.heap.Ns C m) ∧ L2.Inv X pins σ (HD i) s', ⟨⟨_, beg.names⟩, begin_⟩, fun i s' h' tk g keep _ => ?_, fun i w s0 s' hi _ _ at_ st g => ?_, fun s' g => ?_⟩
    · obtain ⟨⟨m, ns⟩, J⟩ := g
      exact ⟨⟨m, ns.at fun o e => keep C o (by simpa using itC.symm) e⟩, turned J (fIt i) fun c o ne e => keep c o (by simpa using ne) e⟩
    · obtain ⟨⟨m, ns⟩, J⟩ := g
      have lt : i < bs.length := by rw [ei] at hi; simpa using hi
      obtain ⟨b, hb⟩ : ∃ b, bs[i]? = some b := ⟨_, List.getElem?_eq_getElem lt⟩
      obtain ⟨k, hk⟩ : ∃ k, ks[i]? = some k := ⟨_, List.getElem?_eq_getElem (hl ▸ lt)⟩
      obtain rfl : w = .ref b := by
        have z : its.toArray[i]? = some w := at_
        rw [List.getElem?_toArray, ei, List.getElem?_map, hb] at z
        exact (Option.some.inj z).symm
      refine wpAny_assign_Name (wpAny_storeName_local (m := m) (loc C) ns (fun h4 ns4 same4 => wpAny_tests_nil ?_) (by rw [kd]; rfl))
      rw [if_pos rfl]
      refine wpAny_Name (wpAny_loadName_local (kd C) (loc C) ns4 (if_pos rfl) (hv _ _ _ _ ?_)) hd
      have J4 : L2.Inv X pins σ (HD i) { s' with heap := h4, toks := s'.toks + 1 } := turned J (fC i) fun c o ne e => (same4.2 c ne).trans e
      have st4 : h4.IsListIter it l (i + 1) ∧ h4.IsList l its.toArray := ⟨st.1.at fun o e => (same4.2 it itC).trans e, st.2.at fun o e => (same4.2 l lC).trans e⟩
      have tup := tups i b k hb hk
      have bD : b ≠ D := fun z => by rw [z, nD] at tup; cases tup
      refine put_tup room J4 (old := rowsT v (ks.take i)) upd_same ((upd_ne bD).trans tup) ?_ rv fun h5 t5 J5 same5 => ?_
      · exact Nat.lt_of_le_of_lt (Nat.le_trans (rowsT_len _) (by rw [List.length_take, hl]; exact Nat.min_le_right _ _)) few
      · rw [upd_upd, ← rowsT_take hk] at J5
        exact ⟨⟨⟨_, ns4.at fun o e => (same5.2 C (Ne.symm beg.ne)).trans e⟩, J5⟩, st4.1.at fun o e => (same5.2 it itD).trans e, st4.2.at fun o e => (same5.2 l lD).trans e⟩
    · obtain ⟨⟨m, ns⟩, J⟩ := g
      have all : HD its.toArray.size = upd H1 D (.dT (rowsT v ks)) := by
        show upd H1 D (.dT (rowsT v (ks.take _))) = _
        rw [List.take_of_length_le (by rw [hl, ei]; simp)]
      rw [all] at J
      exact ⟨m, ns, fun h' same => ⟨.ref D, _, turned (i := its.toArray.size) (b := C) (t := s'.toks) (all ▸ J) (fC _) (fun c o ne e => (same.2 c ne).trans e), rfl, all ▸ q D nD⟩⟩
end
end DL
namespace DL
open PySem L2 PySem.W
section
variable {K : PySem.W.Frag} {B F F0 : Hp} {ro : Ro} {ka k1 k2 : Cells} {ta : List (V × W)} {sg : L2.St} {H H' : Hp} {te : TE}
/-- pairs of numbers in a list: each stands as a tuple of its own -/
theorem prs_at (np : NoP K) (e : EnF K B F ro ka ta sg H) : ∀ (ps : List (Nat × Nat)) (xs : List V), RpL K F (ps.map prD) xs → ∃ bs : List Addr, xs = bs.map V.ref ∧ bs.length = ps.length ∧ ∀ (i : Nat) (b : Addr) (k : List Key), bs[i]? = some b → (ps.map prK)[i]? = some k → H b = some (.tup (k.map kV))
  | [], xs, h => ⟨[], h, rfl, fun i b k h => by simp at h⟩
  | p :: ps, xs, h => by
    obtain ⟨x, ys, rfl, hx, hy⟩ := h
    obtain ⟨b, rfl, hb⟩ := pr_at np e hx
    obtain ⟨bs, rfl, hl, at_⟩ := prs_at np e ps ys hy
    refine ⟨b :: bs, rfl, congrArg (· + 1) hl, fun i c k hc hk => ?_⟩
    cases i with
    | zero =>
      cases hc
      cases hk
      exact hb
    | succ i => exact at_ i c k hc hk
/-- the keys of a dict out of pairs, as data -/
def prsT (d : D) (ps : List (Nat × Nat)) : List (List Key × D) := ps.foldl (fun acc p => putT acc (prK p) d) []
theorem rows_rel {d : D} {v : V} (h : Rp K F d v) (ps : List (Nat × Nat)) : RpT K F (prsT d ps) (rowsT v (ps.map prK)) := by
  have all : ∀ (ps : List (Nat × Nat)) (a : List (List Key × D)) (b : List (List Key × V)), RpT K F a b → RpT K F (ps.foldl (fun acc p => putT acc (prK p) d) a) ((ps.map prK).foldl (fun acc k => putK acc k v) b) := by
    intro ps
    induction ps with
    | nil => exact fun _ _ z => z
    | cons p ps ih => exact fun a b z => ih _ _ (rpt_pt.mpr ((rpt_pt.mp z).put (prK p) h))
  exact all ps [] [] rfl
/-- {pair: True for pair in ..} -/
theorem evn_keysT {ps : List (Nat × Nat)} (np : NoP K) (h : EvD K te ro ka (.val (.lst (ps.map prD))) k1) (few : ps.length < 100000) : EvN K (tKeysT K (.bl true) te) ro ka (.dit (prsT (.bl true) ps)) k1 := fun B F0 ta sg H Q e q =>
  h B F0 ta sg H _ e fun u H1 ⟨F, g, ef⟩ => by
    obtain ⟨l, xs, rfl, sl, rl⟩ := Lk.vl.get ef (ef.tm _ List.mem_cons_self)
    obtain ⟨bs, rfl, hl, at_⟩ := prs_at np ef ps xs rl
    refine ⟨l, bs, ps.map prK, rfl, .inl (by simpa [SqB] using sl), by rw [List.length_map, hl], at_, hl ▸ Nat.lt_of_lt_of_le few (by decide), fun Dl hD => q Dl _ ⟨F, g, ?_⟩⟩
    exact (ef.held (ta' := ta) fun p hp => List.mem_cons_of_mem _ hp).cell (o := .dT _) hD (n := .dit (prsT (.bl true) ps)) ⟨_, upd_same, rows_rel (show Rp K F (.bl true) (.bl true) from rfl) ps⟩
end
end DL

/-! FE: the ends of a pattern's words, as the law counts them (own work). -/
namespace DL
open PySem L2 PySem.W
/-- the places not there yet, appended -/
def addN (acc : List Nat) (ps : List Nat) : List Nat := ps.foldl (fun acc p => if p ∈ acc then acc else acc ++ [p]) acc
theorem addN_cons (acc : List Nat) (p : Nat) (ps : List Nat) : addN acc (p :: ps) = addN (if p ∈ acc then acc else acc ++ [p]) ps := rfl
theorem addN_ext (ps : List Nat) : ∀ acc, ∃ r, addN acc ps = acc ++ r := by
  induction ps with
  | nil => exact fun acc => ⟨[], (List.append_nil _).symm⟩
  | cons p ps ih =>
    intro acc
    rw [addN_cons]
    split
    · exact ih acc
    · obtain ⟨r, e⟩ := ih (acc ++ [p])
      exact ⟨p :: r, by rw [e, List.append_assoc]; rfl⟩
theorem addN_mem {x : Nat} (ps : List Nat) : ∀ acc, x ∈ addN acc ps ↔ x ∈ acc ∨ x ∈ ps := by
  induction ps with
  | nil => exact fun acc => by simp [addN]
  | cons p ps ih =>
    intro acc
    rw [addN_cons, ih]
    split
    · rename_i h
      simp only [List.mem_cons]
      constructor
      · rintro (z | z)
        · exact .inl z
        · exact .inr (.inr z)
      · rintro (z | rfl | z)
        · exact .inl z
        · exact .inl h
        · exact .inr z
    · simp only [List.mem_append, List.mem_cons, List.not_mem_nil, or_false]
      rw [or_assoc]
theorem addN_nodup (ps : List Nat) : ∀ acc, acc.Nodup → (addN acc ps).Nodup := by
  induction ps with
  | nil => exact fun acc h => h
  | cons p ps ih =>
    intro acc h
    rw [addN_cons]
    split
    · exact ih acc h
    · rename_i hp
      refine ih _ (List.nodup_append.mpr ⟨h, by simp, fun a ha b hb => ?_⟩)
      rw [List.mem_singleton.mp hb]
      exact fun z => hp (z ▸ ha)
structure RepI (f : Nat → List Nat) (L s n : Nat) (found : List Nat) (i : Nat) : Prop where
  nd : found.Nodup
  le : ∀ x ∈ found, x ≤ L
  st : s ∈ found
  sound : ∀ x ∈ found, Stp (fun m k => k ∈ f m) s x
  shut : ∀ j x, j < i → found[j]? = some x → ∀ k ∈ f x, k ∈ found
  at_ : i ≤ found.length
  fuel : L + 2 ≤ n + i
theorem RepI.next {f : Nat → List Nat} {L s n : Nat} {found : List Nat} {i p : Nat} (bd : ∀ m ≤ L, ∀ k ∈ f m, k ≤ L) (h : RepI f L s (n + 1) found i) (hp : found[i]? = some p) : RepI f L s n (addN found (f p)) (i + 1) := by
  have mp := List.mem_of_getElem? hp
  obtain ⟨r, er⟩ := addN_ext (f p) found
  have lt := (List.getElem?_eq_some_iff.mp hp).1
  refine ⟨addN_nodup _ _ h.nd, fun x hx => ?_, (addN_mem _ _).mpr (.inl h.st), fun x hx => ?_, fun j x hj hx k hk => ?_, ?_, by have := h.fuel; omega⟩
  · rcases (addN_mem _ _).mp hx with z | z
    · exact h.le x z
    · exact bd p (h.le p mp) x z
  · rcases (addN_mem _ _).mp hx with z | z
    · exact h.sound x z
    · exact .snoc (h.sound p mp) z
  · by_cases e : j = i
    · subst e
      rw [er, List.getElem?_append_left lt, hp] at hx
      cases hx
      exact (addN_mem _ _).mpr (.inr hk)
    · have lj : j < i := by omega
      rw [er, List.getElem?_append_left (by omega)] at hx
      exact (addN_mem _ _).mpr (.inl (h.shut j x lj hx k hk))
  · rw [er, List.length_append]
    omega
theorem Stp.imp {R S : Nat → Nat → Prop} {s L : Nat} (hs : s ≤ L) (hR : ∀ m k, m ≤ L → R m k → S m k ∧ k ≤ L) {k : Nat} (h : Stp R s k) : Stp S s k ∧ k ≤ L := by
  induction h with
  | nil => exact ⟨.nil, hs⟩
  | snoc _ hr ih =>
    obtain ⟨h1, h2⟩ := hR _ _ ih.2 hr
    exact ⟨.snoc ih.1 h1, h2⟩
end DL

/-! FF: defs with a star parameter, by contracts about the tuple (own work). -/
namespace DL
open PySem L2 PySem.W PyProof.Rows
/-- a contract about the tuple of all arguments, told by the arguments -/
def CtV (C : Ct) : Ct := fun ws ka out => ∃ ds : List D, ws = ds.map W.val ∧ ds.length ≤ 100000 ∧ C [.val (.tup ds)] ka out
/-- the def at f, which takes any number of arguments, keeps C of their tuple -/
def FnV (P : Program) (w : World) (K : PySem.W.Frag) (mg : Str → Option Value) (base : Heap) (k : Nat) (f : Addr) (C : Ct) : Prop := FnR P w K mg base (L2.CX P w) k f (spC K (CtV C))
section
variable {P : Program} {w : World} {K : PySem.W.Frag} {mg : Str → Option Value} {base : Heap} {f : Addr} {fd : FuncData} {x qual pv : Str} {params : Arguments} {body : List Stmt} {scope : Scope} {N : List Str} {k j : Nat} {C : Ct}
theorem FnV.up (F : FnV P w K mg base j f C) (h : j ≤ k) : FnV P w K mg base k f C := FnR.mono F h
/-- what a contract says of a body: its wish at the start of the frame -/
theorem sp_start {ps : List Str} {t : TS} {vs : List V} {H : Hp} {Q : VK} {E : XK} (hl : ∀ ws ka out, C ws ka out → ws.length = ps.length) (h : spC K C vs H Q E)
    (p : ∀ ws ka out B F0 Q, C ws ka out → RtOk K B F0 out Q → RxOk K B F0 out E → Gp K B F0 [] (t { nx := fun _ H' => Q .non H', rt := Q }) (ws.map some ++ List.replicate (N.length - ps.length) none) ka) : t { nx := fun _ H' => Q .non H', rt := Q } (L2.start N vs) H := by
  obtain ⟨B, F0, ws, ka, out, hC, l, ⟨F1, g1, en⟩, hR, hX⟩ := h
  have hw := hl _ _ _ hC
  refine p ws ka out B F0 Q hC hR hX _ H ⟨F1, g1, (en.frame ?_ fun i y e => ?_).held fun q hq => by cases hq⟩
  · simp [L2.start, l, hw]
  · unfold L2.start
    rcases Nat.lt_or_ge i ws.length with lt | ge
    · have lv : i < vs.length := l ▸ lt
      rw [List.getElem?_append_left (by rw [List.length_map]; exact lt), List.getElem?_map, List.getElem?_eq_getElem lt] at e
      obtain rfl : ws[i] = y := by simpa using e
      refine ⟨vs[i], by rw [List.getElem?_append_left (by rw [List.length_map]; exact lv), List.getElem?_map, List.getElem?_eq_getElem lv]; rfl, en.tm (vs[i], ws[i]) (List.mem_of_getElem? (i := i) ?_)⟩
      exact List.getElem?_zip_eq_some.mpr ⟨List.getElem?_eq_getElem lv, List.getElem?_eq_getElem lt⟩
    · rw [List.getElem?_append_right (by rw [List.length_map]; exact ge), List.getElem?_replicate] at e
      split at e <;> cases e
/-- the arguments gathered -/
theorem sp_gather {vs : List V} {H : Hp} {Q : VK} {E : XK} (h : spC K (CtV C) vs H Q E) : ∃ us rest, vs = us ++ rest ∧ us.length = ([] : List Str).length ∧ rest.length ≤ sizeLine ∧ ∀ p, H p = none → spC K C (us ++ [V.ref p]) (upd H p (.tup rest)) Q E := by
  obtain ⟨B, F0, _, ka, out, ⟨ds, rfl, few, hC⟩, l, ⟨F1, g1, en⟩, hR, hX⟩ := h
  rw [List.length_map] at l
  refine ⟨[], vs, rfl, rfl, l ▸ Nat.le_trans few (by decide), fun p hp => ?_⟩
  obtain ⟨e2, g2⟩ := en.lay (o := .tup vs) hp rfl
  refine ⟨B, F0, _, ka, out, hC, rfl, ⟨_, g1.trans g2, (e2.held (ta' := []) fun q hq => by cases hq).push ⟨p, vs, rfl, .inl (.inl upd_same), ?_⟩⟩, hR, hX⟩
  exact RpL.mono g2.sub.exz en.nz _ _ (rpl_of l fun z hz => en.tm z hz)
theorem fn_okV (F : FunD K x qual params body scope [] [] f fd) (S : FnScope N [pv] scope)
    (hb : ∀ (kV doc pm : Value) (an : Option Addr) (cdv ct : Value) (rest : List Value), bindArgs (PySem.W.fnOf x qual params body scope .none kV doc pm an cdv ct) ⟨rest, []⟩ = (newTuple rest >>= fun t => pure [(pv, t)]))
    (hl : ∀ ws ka out, C ws ka out → ws.length = 1)
    (h : ∀ (cdv : Value) (A : Around) (outer : List Env) (s : Shared) (H : Hp) (E : XK), Room k (A.deeper (PyProof.Rows.envOfC qual scope s.heap.objs.size f cdv)) →
      ∃ t, PSs (cxOf (L2.CX P w) P w K mg base N qual scope f cdv A outer s H E) body t ∧
        ∀ ws ka out B F0 Q, C ws ka out → RtOk K B F0 out Q → RxOk K B F0 out E → Gp K B F0 [] (t { nx := fun _ H' => Q .non H', rt := Q }) (ws.map some ++ List.replicate (N.length - [pv].length) none) ka) : FnV P w K mg base (k + 1) f C := by
  obtain ⟨oc, od, dV, kV, doc, pm, an, cdv, ct, osl, rfl, lk, hcd, dfl, _⟩ := F.ex
  obtain rfl : dV = .none := dfl.elim (fun z => z.2) fun z => absurd rfl z.1
  refine FnR.imp (StX.fn_star (ps := []) (pv := pv) (sp := spC K C) lk hcd S StX.cxUp (fun us rest hu => ?_) fun A outer s H vs Q E hr hs => ?_) fun vs H Q E z => sp_gather z
  · cases List.eq_nil_of_length_eq_zero hu
    exact hb kV doc pm an cdv ct rest
  · obtain ⟨t, d, p⟩ := h cdv A outer s H E hr
    exact ⟨t, d, sp_start (ps := [pv]) hl hs p⟩
end
section
variable {X : Cx} {k : Nat} {f : Addr} {C : Ct} {E : XK} {x : Str} {p pos : Pos} {e : Expr} {es : List Expr} {t : TA}
/-- f(e, ..), f a def with a star parameter -/
theorem pe_callS (F : FnV X.prog X.w X.K X.mg X.base k f C) (hr : Room k X.A) (hg : Gl X x) (hm : X.mg x = some (.ref f)) (kp : PySem.W.keepIn X.K (.ref f) = true) (hx : Passes (L2.CX X.prog X.w) X E) (ha : PA X (e :: es) t)
    (nd : (x == ("__debug__" : Str)) = false := by decide) (st : starEach (e :: es) X.env = (false, eval e X.env) :: starEach es X.env := by rfl) (pl : (backTo pos (starEach es X.env)).any (·.1) = false := by rfl) : PE X (.Call (.Name x p) (e :: es) [] pos) (tCall (spC X.K (CtV C)) [] E t) where
  run pins s σ H Q I h := wpAny_Call_Name_kw (ld_glob I hg hm (PySem.W.callWith_K (h₀ := X.base) I.ok.mod.kin kp (thn (ha.run pos pins s σ H _ I h) fun us s1 ⟨vs, H1, J, rv, q⟩ => ⟨J.kIn, wpAny_call (run_fnR F hr hx J rv (vs.append_nil ▸ q))⟩) st pl) nd)
end
/-- trees as the law draws them: at each end one to three names, or none behind "none" -/
def niceT : Tr → Prop
  | .at k ns => ns.length ≤ 3 ∧ (k = true → ns ≠ []) ∧ ∀ n ∈ ns, isNm n = true
  | .join a b => niceT a ∧ niceT b
  | .either a b => niceT a ∧ niceT b
  | .rep a => niceT a
  | .opt a => niceT a
/-- sizes of such trees -/
theorem nice_few : ∀ {t : Tr}, niceT t → t.few
  | .at _ _, h => Nat.le_trans h.1 (by decide)
  | .join _ _, h => ⟨nice_few h.1, nice_few h.2⟩
  | .either _ _, h => ⟨nice_few h.1, nice_few h.2⟩
  | .rep a, h => nice_few (t := a) h
  | .opt a, h => nice_few (t := a) h
theorem pow_max (a b : Nat) : 2 ^ a ≤ 2 ^ (max a b) ∧ 2 ^ b ≤ 2 ^ (max a b) := ⟨Nat.pow_le_pow_right (by decide) (Nat.le_max_left _ _), Nat.pow_le_pow_right (by decide) (Nat.le_max_right _ _)⟩
theorem ats_le : ∀ t : Tr, t.ats ≤ 2 ^ t.dep
  | .at _ _ => Nat.le_refl _
  | .join a b => by
    have h1 := ats_le a
    have h2 := ats_le b
    have h3 := pow_max a.dep b.dep
    show a.ats + b.ats ≤ 2 ^ (max a.dep b.dep + 1)
    rw [Nat.pow_succ]
    omega
  | .either a b => by
    have h1 := ats_le a
    have h2 := ats_le b
    have h3 := pow_max a.dep b.dep
    show a.ats + b.ats ≤ 2 ^ (max a.dep b.dep + 1)
    rw [Nat.pow_succ]
    omega
  | .rep a => by
    have h1 := ats_le a
    show a.ats ≤ 2 ^ (a.dep + 1)
    rw [Nat.pow_succ]
    omega
  | .opt a => by
    have h1 := ats_le a
    show a.ats ≤ 2 ^ (a.dep + 1)
    rw [Nat.pow_succ]
    omega
theorem ops_le : ∀ t : Tr, t.ops + 1 ≤ 2 ^ t.dep
  | .at _ _ => Nat.le_refl _
  | .join a b => by
    have h1 := ops_le a
    have h2 := ops_le b
    have h3 := pow_max a.dep b.dep
    show a.ops + b.ops + 1 + 1 ≤ 2 ^ (max a.dep b.dep + 1)
    rw [Nat.pow_succ]
    omega
  | .either a b => by
    have h1 := ops_le a
    have h2 := ops_le b
    have h3 := pow_max a.dep b.dep
    show a.ops + b.ops + 1 ≤ 2 ^ (max a.dep b.dep + 1)
    rw [Nat.pow_succ]
    omega
  | .rep a => by
    have h1 := ops_le a
    have : 1 ≤ 2 ^ a.dep := Nat.one_le_two_pow
    show a.ops + 1 + 1 ≤ 2 ^ (a.dep + 1)
    rw [Nat.pow_succ]
    omega
  | .opt a => by
    have h1 := ops_le a
    show a.ops + 1 ≤ 2 ^ (a.dep + 1)
    rw [Nat.pow_succ]
    omega
theorem nice_sm {t : Tr} (h : niceT t) (hd : t.dep ≤ 3) : t.sm := by
  have p3 : 2 ^ t.dep ≤ 2 ^ 3 := Nat.pow_le_pow_right (by decide) hd
  have h1 := ats_le t
  have h2 := ops_le t
  have e : (2 : Nat) ^ 3 = 8 := by decide
  refine sm_of (n := 8) (nice_few h) (by omega) (by decide) ?_
  have : t.ops ≤ 7 := by omega
  calc t.ops * (8 * 8) ≤ 7 * (8 * 8) := Nat.mul_le_mul_right _ this
    _ ≤ 90000 := by decide
end DL

/-! FG: patterns turned about and multiplied (own work). -/
namespace DL
open PySem L2 PySem.W
/-- one sequence of lanes -/
def wdT : Str → List Str → Tr
  | x, l => l.foldl (fun t y => .join t (.at true [y])) (.at true [x])
theorem wdT_snoc (x y : Str) (l : List Str) : wdT x (l ++ [y]) = .join (wdT x l) (.at true [y]) := by
  show List.foldl _ _ (l ++ [y]) = _
  rw [List.foldl_append]
  rfl
end DL
namespace DL
open PySem L2 PySem.W
end DL

/-! FH: errors without fields handed on (own work). -/
namespace DL
open PySem L2 PySem.W
section
variable {K : PySem.W.Frag} {B F0 : Hp} {ro : Ro} {ka k1 k2 : Cells} {ta : List (V × W)} {te tf : TE} {tr : TA} {De : Ends} {u : TS} {C1 : Addr} {gs : List (Str × D)} {out : Oc} {E : XK} {w : W}
theorem g_dropP0 (hX : RxOk K B F0 out E) (h : EvX0 K te ro ka E C1 k2) (o : out (.exc0 C1) k2) : Gp K B F0 ta (tDrop te De) ro ka := fun sg H e => h B F0 ta sg H _ e fun H' e' => hX.2 C1 k2 H' o e'.leaveX
theorem q_dropP0 (hX : RxOk K B F0 out E) (h : EvX0 K te ro ka E C1 k2) (o : out (.exc0 C1) k2) : Gp K B F0 ta (tSeq (tDrop te) u De) ro ka := g_dropP0 (De := { De with nx := u De }) hX h o
theorem g_retP0 (hX : RxOk K B F0 out E) (h : EvX0 K te ro ka E C1 k2) (o : out (.exc0 C1) k2) : Gp K B F0 ta (tRet te De) ro ka := fun sg H e => h B F0 ta sg H _ e fun H' e' => hX.2 C1 k2 H' o e'.leaveX
theorem g_retPX (hX : RxOk K B F0 out E) (h : EvX K te ro ka E C1 gs k2) (o : out (.exc C1 gs) k2) : Gp K B F0 ta (tRet te De) ro ka := fun sg H e => h B F0 ta sg H _ e fun dx H' e' => hX.1 C1 gs k2 dx H' o e'.leaveX
/-- f(g(..)) where g raises -/
theorem evx_arg {sp : Sp} {E' : XK} {dvs : List V} (h : EvX K te ro ka E C1 gs k2) : EvX K (tCall sp dvs E' (tCons te tr)) ro ka E C1 gs k2 := fun B F0 ta sg H Q e q => h B F0 ta sg H _ e q
theorem evx0_arg {sp : Sp} {E' : XK} {dvs : List V} (h : EvX0 K te ro ka E C1 k2) : EvX0 K (tCall sp dvs E' (tCons te tr)) ro ka E C1 k2 := fun B F0 ta sg H Q e q => h B F0 ta sg H _ e q
/-- x.f where x raises -/
theorem evx_fld {f : Str} (h : EvX K te ro ka E C1 gs k2) : EvX K (tFld K te f) ro ka E C1 gs k2 := fun B F0 ta sg H Q e q => h B F0 ta sg H _ e q
theorem evx0_fld {f : Str} (h : EvX0 K te ro ka E C1 k2) : EvX0 K (tFld K te f) ro ka E C1 k2 := fun B F0 ta sg H Q e q => h B F0 ta sg H _ e q
end
end DL

/-! FI: `is not` between truth values (own work). -/
namespace DL
open PySem L2 PySem.W
section
variable {K : PySem.W.Frag} {ro : Ro} {ka k1 k2 : Cells} {te tf : TE}
end
end DL

/-! FJ: dicts whose keys are tuples of any depth: read, asked, written (own work). -/
namespace DL
open PySem L2 PySem.W PyProof.Rows

/-! ### rows -/
/-- keys and values alone -/
def rowN {α : Type} (xs : List (NestedKey × Addr × α)) : List (NestedKey × α) := xs.map fun x => (x.1, x.2.2)
def setA {α : Type} (k : NestedKey) (v : α) (x : NestedKey × Addr × α) : NestedKey × Addr × α := if x.1 = k then (x.1, x.2.1, v) else x
/-- a key that stands keeps its place and its own thing -/
def putA {α : Type} (xs : List (NestedKey × Addr × α)) (k : NestedKey) (b : Addr) (v : α) : List (NestedKey × Addr × α) :=
  if hasT (rowN xs) k = true then xs.map (setA k v) else xs ++ [(k, b, v)]
section
variable {α : Type}
theorem rowN_put (xs : List (NestedKey × Addr × α)) (k : NestedKey) (b : Addr) (v : α) : rowN (putA xs k b v) = putT (rowN xs) k v := by
  unfold putA putT
  split
  · unfold rowN
    rw [List.map_map, List.map_map]
    refine List.map_congr_left fun x _ => ?_
    by_cases e : x.1 = k
    · simp only [Function.comp, setA, e, if_true, newAt]
    · simp only [Function.comp, setA, e, if_false, newAt]
  · unfold rowN
    rw [List.map_append]
    rfl
theorem putA_len (xs : List (NestedKey × Addr × α)) (k : NestedKey) (b : Addr) (v : α) : (putA xs k b v).length ≤ xs.length + 1 := by
  unfold putA
  split
  · rw [List.length_map]; omega
  · rw [List.length_append, List.length_cons, List.length_nil]; omega
/-- the keys of the new row stood, or are the new one -/
theorem putA_mem {xs : List (NestedKey × Addr × α)} {k : NestedKey} {b : Addr} {v : α} {q : NestedKey × Addr × α} (h : q ∈ putA xs k b v) : (q.1 = k ∧ q.2.1 = b) ∨ ∃ x ∈ xs, q.1 = x.1 ∧ q.2.1 = x.2.1 := by
  unfold putA at h
  split at h
  · obtain ⟨x, hx, rfl⟩ := List.mem_map.mp h
    refine .inr ⟨x, hx, ?_⟩
    unfold setA
    split <;> exact ⟨rfl, rfl⟩
  · rcases List.mem_append.mp h with h | h
    · exact .inr ⟨q, h, rfl, rfl⟩
    · rw [List.mem_singleton.mp h]
      exact .inl ⟨rfl, rfl⟩
end
/-- a row of values as they are seen, as they lie -/
abbrev SeesN : List (NestedKey × Addr × V) → List (NestedKey × Addr × Value) → Prop := Paired fun p q => p.1 = q.1 ∧ p.2.1 = q.2.1 ∧ RelV p.2.2 q.2.2
theorem SeesN.has {xs : List (NestedKey × Addr × V)} {qs : List (NestedKey × Addr × Value)} (r : SeesN xs qs) (k : NestedKey) :
    (getT (rowN xs) k = none ∧ hasT (rowN xs) k = false ∧ atKey qs k = none) ∨ ∃ v p, getT (rowN xs) k = some v ∧ hasT (rowN xs) k = true ∧ atKey qs k = some p ∧ RelV v p.2 := by
  unfold SeesN at r
  induction r with
  | nil => exact .inl ⟨rfl, rfl, rfl⟩
  | @cons p q ps qs h t ih =>
    obtain ⟨h1, h2, h3⟩ := h
    by_cases e : p.1 = k
    · refine .inr ⟨p.2.2, q.2, ?_, ?_, ?_, h3⟩
      · show getT ((p.1, p.2.2) :: rowN ps) k = _
        simp [getT, e]
      · show hasT ((p.1, p.2.2) :: rowN ps) k = _
        simp [hasT, e]
      · have e2 : q.1 = k := h1.symm.trans e
        simp [atKey, e2]
    · have e2 : ¬ q.1 = k := fun z => e (h1.trans z)
      have a1 : getT (rowN (p :: ps)) k = getT (rowN ps) k := by
        show getT ((p.1, p.2.2) :: rowN ps) k = _
        simp [getT, e]
      have a2 : hasT (rowN (p :: ps)) k = hasT (rowN ps) k := by
        show hasT ((p.1, p.2.2) :: rowN ps) k = _
        simp [hasT, e]
      have a3 : atKey (q :: qs) k = atKey qs k := by simp [atKey, e2]
      rw [a1, a2, a3]
      exact ih
theorem SeesN.put {xs : List (NestedKey × Addr × V)} {qs : List (NestedKey × Addr × Value)} (r : SeesN xs qs) (k : NestedKey) (b : Addr) {v : V} {u : Value} (rv : RelV v u) : SeesN (putA xs k b v) (storedH qs k b u) := by
  have hh : hasT (rowN xs) k = (atKey qs k).isSome := by
    rcases r.has k with ⟨_, h, h2⟩ | ⟨_, _, _, h, h2, _⟩ <;> rw [h, h2] <;> rfl
  unfold putA storedH
  rw [hh]
  split
  · unfold SeesN at r
    clear hh
    rename_i hx
    clear hx
    induction r with
    | nil => exact .nil
    | @cons p q ps qs h t ih =>
      obtain ⟨h1, h2, h3⟩ := h
      refine .cons ?_ ih
      unfold putAt setA
      by_cases e : p.1 = k
      · rw [if_pos e, if_pos (h1.symm.trans e)]
        exact ⟨h1, h2, rv⟩
      · rw [if_neg e, if_neg fun z => e (h1.trans z)]
        exact ⟨h1, h2, h3⟩
  · exact Paired.snoc r ⟨rfl, rfl, rv⟩

/-! ### in the heap -/
/-- the row holds whatever else the heap holds -/
theorem dnO_stay {w : World} {a : Addr} {xs : List (NestedKey × Addr × V)} {φ : Heap → Prop} (e : DnO w a xs = .ext φ) : ∀ h1 h2 : Heap, φ h1 → (∀ o, h1.get? a = some o → h2.get? a = some o) → φ h2 := by
  unfold DnO at e
  cases e
  rintro h1 h2 ⟨z, y, qs, r, o, es, ep, ho, t⟩ k
  exact ⟨z, y, qs, r, o, es, ep, k _ ho, t⟩
/-- all its keys stand where they are told -/
def NAt (K : PySem.W.Frag) (H : Hp) (w : World) (a : Addr) (xs : List (NestedKey × Addr × V)) : Prop := Rd H a (DnO w a xs) ∧ ∀ x ∈ xs, RkN K H x.1 (.ref x.2.1) ∧ x.1.depth ≤ 8
section
variable {X : Cx} {pins : List (Addr × Obj)} {σ : L2.St} {H : Hp} {s : Shared} {a b : Addr} {xs : List (NestedKey × Addr × V)}
mutual
theorem key_is (I : L2.Inv X pins σ H s) : ∀ (k : NestedKey) (v : V) (u : Value), RkN X.K H k v → RelV v u → NestedIs s.heap k u
  | .none, _, _, h, r => by
    subst h
    cases (show _ = Value.none from r)
    exact .none
  | .num i, _, _, h, r => by
    subst h
    obtain ⟨t, rfl⟩ := (show ∃ t, _ = Value.int i t from r)
    exact .int i t
  | .text x, _, _, h, r => by
    subst h
    obtain ⟨t, rfl⟩ := (show ∃ t, _ = Value.str x t from r)
    exact .text x t
  | .tup ks, _, _, h, r => by
    obtain ⟨c, ys, rfl, h1, h2⟩ := h
    cases (show _ = Value.ref c from r)
    obtain ⟨its, rel, ⟨o, ho, hc, n, hd⟩, _⟩ := I.tuple h1
    exact .tup ho hc hd (by simpa using keys_are I ks ys its h2 rel)
theorem keys_are (I : L2.Inv X pins σ H s) : ∀ (ks : List NestedKey) (vs : List V) (us : List Value), RkL X.K H ks vs → Vals vs us → NestedAll s.heap ks us
  | [], _, us, h, r => by
    subst h
    cases r
    exact .nil
  | k :: ks, _, us, h, r => by
    obtain ⟨x, ys, rfl, h1, h2⟩ := h
    cases r with
    | cons r1 r2 => exact .cons (key_is I k x _ h1 r1) (keys_are I ks ys _ h2 r2)
end
theorem dn_at (I : L2.Inv X pins σ H s) (n : NAt X.K H X.w a xs) : xs.length ≤ sizeLine ∧ (a == sysModules) = false ∧ ∃ qs, SeesN xs qs ∧ s.heap.DictOfH (nestedKind X.prog X.w) a qs := by
  obtain ⟨z, y, qs, r, o, es, ep, ho, hc, hd, he, hn⟩ := (show ObjOk X.prog X.w H s.heap a (DnO X.w a xs) from n.1.ok I.hok).1
  refine ⟨z, y, qs, r, o, es, ep, ho, hc, hd, he, ?_, hn⟩
  have all : ∀ {l : List (NestedKey × Addr × V)} {m : List (NestedKey × Addr × Value)}, SeesN l m → (∀ x ∈ l, RkN X.K H x.1 (.ref x.2.1) ∧ x.1.depth ≤ 8) → ∀ x ∈ m, (nestedKind X.prog X.w).is s.heap x.1 x.2.1 := by
    intro l m q
    unfold SeesN at q
    induction q with
    | nil => exact fun _ x hx => nomatch hx
    | @cons p q ps qs hq t ih =>
      intro hl x hx
      rcases List.mem_cons.mp hx with rfl | hx
      · obtain ⟨k1, k2⟩ := hl p List.mem_cons_self
        obtain ⟨e1, e2, _⟩ := hq
        rw [← e1, ← e2]
        exact ⟨key_is I _ _ _ k1 rfl, k2⟩
      · exact ih (fun y hy => hl y (List.mem_cons_of_mem _ hy)) x hx
  exact all r n.2
theorem key_room {A : Around} (hu : A.units + 16 < cLine) : (nestedKind X.prog X.w).room A.in1 := by
  show A.in1.units + 8 < cLine
  rw [Around.in1_units]
  omega
/-- another row is laid at the dict's address -/
theorem dn_put (I : L2.Inv X pins σ H s) (e : H a = some (DnO X.w a xs)) {ys : List (NestedKey × Addr × V)} {qs : List (NestedKey × Addr × Value)} {h' : Heap} {t' : Nat} (z : ys.length ≤ sizeLine) (y : (a == sysModules) = false) (r : SeesN ys qs) (dd : h'.DictOfH (nestedKind X.prog X.w) a qs) (hs : Heap.SameBut a s.heap h') :
    L2.Inv X pins σ (upd H a (DnO X.w a ys)) { s with heap := h', toks := t' } := by
  obtain ⟨o, es, ep, ho, hc, hd, he, _, hn⟩ := dd
  refine d_write I (by rw [e]; exact True.intro) hs ⟨o, ho⟩ ⟨⟨z, y, qs, r, o, es, ep, ho, hc, hd, he, hn⟩, ⟨o, ho⟩, dnO_stay rfl⟩
end

theorem hu16 {k : Nat} {A : Around} (r : Room k A) : A.units + 16 < cLine := by
  have := r.un
  omega
def tNNotIn (K : PySem.W.Frag) (w : World) (ty td : TE) : TE := fun σ H Q => ty σ H fun y H1 => td σ H1 fun x H2 => ∃ a xs k b, x = .ref a ∧ y = .ref b ∧ NAt K H2 w a xs ∧ RkN K H2 k (.ref b) ∧ k.depth ≤ 8 ∧ Q (.bl (!(getT (rowN xs) k).isSome)) H2
/-- d[y] = v -/
def sNPut (K : PySem.W.Frag) (w : World) (td ty tv : TE) : TS := fun D σ H => tv σ H fun v H1 => td σ H1 fun x H2 => ty σ H2 fun y H3 => ∃ a xs k b, x = .ref a ∧ y = .ref b ∧ H3 a = some (DnO w a xs) ∧ NAt K H3 w a xs ∧ RkN K H3 k (.ref b) ∧ k.depth ≤ 8 ∧ xs.length < sizeLine ∧ D.nx σ (upd H3 a (DnO w a (putA xs k b v)))
/-- {} -/
def tNNew (w : World) : TE := fun _ H Q => ∀ p, H p = none → Q (.ref p) (upd H p (DnO w p []))
section
variable {X : Cx} {o i value : Expr} {pos pos' : Pos} {td ty tv tk : TE}
theorem pc_nnot (hu : X.A.units + 16 < cLine) (hi : PE X i ty) (ho : PE X o td) : PC X .NotIn i o (tNNotIn X.K X.w ty td) := ⟨fun pins s σ H Q I h => by
  refine thn (hi.run pins s σ H _ I h) fun iv s1 ⟨y, H1, I1, ry, q1⟩ => thn (ho.run pins s1 σ H1 _ I1 q1) fun u s2 ⟨x, H2, I2, rx, a, xs, k, b, ex, ey, n, hk, dk, q2⟩ => ?_
  subst ex ey
  cases (show u = Value.ref a from rx)
  cases (show iv = Value.ref b from ry)
  obtain ⟨_, hd, qs, r, dd⟩ := dn_at I2 n
  refine wpAny_notIn_heap (key_room hu) ⟨key_is I2 _ _ _ hk rfl, dk⟩ hd dd ?_
  rcases r.has k with ⟨z, _, z2⟩ | ⟨v', p, z, _, z2, _⟩ <;> rw [z] at q2 <;> rw [z2] <;> exact ⟨.bl _, H2, I2.tok _, rfl, q2⟩⟩
theorem ps_nput (hu : X.A.units + 16 < cLine) (ho : PE X o td) (hi : PE X i ty) (hv : PE X value tv) (hs : swapsWith value (some (.Subscript o i pos')) pos.line X.env = pure false) : PS X (.Assign [.Subscript o i pos'] value pos) (sNPut X.K X.w td ty tv) := ⟨fun pins s σ H D I h => by
  refine wpAny_Assign_Subscript (thn (hv.run pins s σ H _ I h) fun r s1 ⟨v, H1, I1, rv, q1⟩ => thn (ho.run pins s1 σ H1 _ I1 q1) fun u s2 ⟨x, H2, I2, rx, q2⟩ => thn (hi.run pins s2 σ H2 _ I2 q2) fun iv s3 ⟨y, H3, I3, ry, a, xs, k, b, ex, ey, e, n, hk, dk, few, q3⟩ => ?_) hs
  subst ex ey
  cases (show u = Value.ref a from rx)
  cases (show iv = Value.ref b from ry)
  obtain ⟨z, hd, qs, rel, dd⟩ := dn_at I3 n
  have zq : qs.length ≤ sizeLine := by rw [← Paired.length rel]; exact z
  exact wpAny_setItem_heap (hsz := zq) (key_room hu) ⟨key_is I3 _ _ _ hk rfl, dk⟩ dd fun h' dd' hs' => ⟨σ, _, dn_put I3 e (Nat.le_trans (putA_len ..) few) hd (rel.put k b rv) dd' hs', q3⟩⟩
/-- an empty dict just laid -/
theorem dn_new {pins : List (Addr × Obj)} {σ : L2.St} {H : Hp} {s : Shared} (I : L2.Inv X pins σ H s) : L2.Inv X pins σ (upd H s.heap.objs.size (DnO X.w s.heap.objs.size [])) { s with heap := s.heap.push { cls := .type "dict", data := .dict #[] } } :=
  I.laid (t' := s.toks) (fun _ _ q => Heap.get?_push_of_some _ q) (Nat.le_refl _)
    ⟨⟨Nat.zero_le _, beq_eq_false_iff_ne.mpr (Ne.symm (Nat.ne_of_lt I.big)), [], .nil, _, #[], 0, Heap.get?_push_size _ rfl, ⟨rfl, rfl, rfl⟩, rfl, rfl, List.nodup_nil⟩, ⟨_, Heap.get?_push_size _ rfl⟩, dnO_stay rfl⟩
theorem pe_nnew : PE X (.Dict [] [] pos) (tNNew X.w) := ⟨fun pins s σ H Q I h => wpAny_Dict_empty ⟨.ref _, _, dn_new I, rfl, h _ (I.hok.fresh (Nat.le_refl _))⟩⟩
end
end DL

/-! FK: dicts with nested keys, by data (own work). -/
namespace DL
open PySem L2 PySem.W

/-! ### keys as data -/
mutual
def nkD : NestedKey → D
  | .none => .non
  | .num i => .int i
  | .text s => .str s
  | .tup ks => .tup (nkDs ks)
def nkDs : List NestedKey → List D
  | [] => []
  | k :: ks => nkD k :: nkDs ks
end
section
variable {K : PySem.W.Frag} {F : Hp}
mutual
theorem rk_iff : ∀ (k : NestedKey) (v : V), RkN K F k v ↔ Rp K F (nkD k) v
  | .none, _ => Iff.rfl
  | .num _, _ => Iff.rfl
  | .text _, _ => Iff.rfl
  | .tup ks, v => ⟨fun ⟨a, xs, e, h1, h2⟩ => ⟨a, xs, e, h1, (rks_iff ks xs).mp h2⟩, fun ⟨a, xs, e, h1, h2⟩ => ⟨a, xs, e, h1, (rks_iff ks xs).mpr h2⟩⟩
theorem rks_iff : ∀ (ks : List NestedKey) (vs : List V), RkL K F ks vs ↔ RpL K F (nkDs ks) vs
  | [], _ => Iff.rfl
  | k :: ks, vs => ⟨fun ⟨x, ys, e, h1, h2⟩ => ⟨x, ys, e, (rk_iff k x).mp h1, (rks_iff ks ys).mp h2⟩, fun ⟨x, ys, e, h1, h2⟩ => ⟨x, ys, e, (rk_iff k x).mpr h1, (rks_iff ks ys).mpr h2⟩⟩
end
end
/-- numbers, texts as keys -/
def nmK (ns : List Nat) : NestedKey := .tup (ns.map fun (n : Nat) => .num (n : Int))
theorem nkDs_map {α : Type} {f : α → NestedKey} : ∀ xs : List α, nkDs (xs.map f) = xs.map fun x => nkD (f x)
  | [] => rfl
  | x :: xs => by rw [List.map_cons, nkDs, nkDs_map xs, List.map_cons]
theorem nkD_nm (ns : List Nat) : nkD (nmK ns) = .tup (nmD ns) := by
  unfold nmK
  rw [nkD, nkDs_map]
  rfl
theorem dep_flat {α : Type} {f : α → NestedKey} (h : ∀ x, (f x).depth = 0) : ∀ xs : List α, NestedKey.depthAll (xs.map f) = 0
  | [] => rfl
  | x :: xs => by rw [List.map_cons, NestedKey.depthAll, h x, dep_flat h xs]; rfl
theorem dep_nm (ns : List Nat) : (nmK ns).depth = 1 := by
  unfold nmK
  rw [NestedKey.depth, dep_flat fun _ => rfl]
theorem nm_inj {a b : List Nat} (h : nmK a = nmK b) : a = b := by
  unfold nmK at h
  injection h with h
  refine List.map_inj_right (fun x y e => ?_) |>.mp h
  injection e with e
  exact Int.ofNat.inj e
/-! ### rows -/
section
variable {K : PySem.W.Frag} {F : Hp}
theorem rpn_pt : ∀ {ds : List (NestedKey × D)} {xs : List (NestedKey × Addr × V)}, RpN K F ds xs → PT (Rp K F) ds (rowN xs)
  | [], xs, h => by rw [show xs = [] from h]; rfl
  | (k, d) :: ds, xs, h => by
    obtain ⟨b, x, ys, rfl, _, h1, h2⟩ := h
    exact ⟨x, rowN ys, rfl, h1, rpn_pt h2⟩
theorem rpn_keys : ∀ {ds : List (NestedKey × D)} {xs : List (NestedKey × Addr × V)}, RpN K F ds xs → ∀ x ∈ xs, RkN K F x.1 (.ref x.2.1) ∧ x.1.depth ≤ 8
  | [], xs, h => by rw [show xs = [] from h]; exact fun _ hx => nomatch hx
  | (k, d) :: ds, xs, h => by
    obtain ⟨b, x, ys, rfl, h0, h1, h2⟩ := h
    intro y hy
    rcases List.mem_cons.mp hy with rfl | hy
    · exact h0
    · exact rpn_keys h2 y hy
theorem rpn_mk : ∀ {ds : List (NestedKey × D)} {xs : List (NestedKey × Addr × V)}, PT (Rp K F) ds (rowN xs) → (∀ x ∈ xs, RkN K F x.1 (.ref x.2.1) ∧ x.1.depth ≤ 8) → RpN K F ds xs
  | [], [], _, _ => rfl
  | [], x :: xs, h, _ => by cases (show rowN (x :: xs) = [] from h)
  | (k, d) :: ds, [], h, _ => by
    obtain ⟨x, ys, e, _⟩ := h
    cases e
  | (k, d) :: ds, (k', b, v) :: xs, h, q => by
    obtain ⟨x, ys, e, h1, h2⟩ := h
    cases e
    exact ⟨b, v, xs, rfl, q _ List.mem_cons_self, h1, rpn_mk h2 fun y hy => q y (List.mem_cons_of_mem _ hy)⟩
theorem rpn_put {ds : List (NestedKey × D)} {xs : List (NestedKey × Addr × V)} (h : RpN K F ds xs) {k : NestedKey} {b : Addr} {d : D} {v : V} (hk : RkN K F k (.ref b)) (dk : k.depth ≤ 8) (hv : Rp K F d v) : RpN K F (putT ds k d) (putA xs k b v) := by
  refine rpn_mk (by rw [rowN_put]; exact (rpn_pt h).put k hv) fun x hx => ?_
  rcases putA_mem hx with ⟨e1, e2⟩ | ⟨y, hy, e1, e2⟩
  · rw [e1, e2]
    exact ⟨hk, dk⟩
  · rw [e1, e2]
    exact rpn_keys h y hy
theorem rpn_len {ds : List (NestedKey × D)} {xs : List (NestedKey × Addr × V)} (h : RpN K F ds xs) : xs.length = ds.length := by
  have := (rpn_pt h).len
  unfold rowN at this
  rwa [List.length_map] at this
end

/-! ### read and written -/
/-- w is a dict of ds with nested keys; b: viewed -/
inductive Dn (wd : World) (ka : Cells) : W → List (NestedKey × D) → Bool → Prop where
  | v {ds : List (NestedKey × D)} : Dn wd ka (.val (.din wd ds)) ds false
  | w {ds : List (NestedKey × D)} : Dn wd ka (.vw (.din wd ds)) ds true
  | ce {a : Addr} {ds : List (NestedKey × D)} (j : Nat) (h : ka[j]? = some (a, .din wd ds)) : Dn wd ka (.val (.adr a)) ds false
section
variable {wd : World} {K : PySem.W.Frag} {B B' F F' F0 : Hp} {ro ro' : Ro} {ka k1 k2 k3 kr : Cells} {ta : List (V × W)} {sg sg' : L2.St} {H H' : Hp} {te tf tg td ty tk tv : TE} {w x y z : W} {n m : Nd} {a : Addr} {b : Bool} {De : Ends} {t u : TS} {ds : List (NestedKey × D)} {k : NestedKey} {ks : List NestedKey} {d : D}
theorem Dn.get {v : V} (l : Dn wd ka w ds b) (e : EnF K B F ro ka ta sg H) (h : WOk K B F v w) : ∃ a xs, v = .ref a ∧ NAt K H wd a xs ∧ RpN K (if b then uni B F else F) ds xs := by
  cases l with
  | v =>
    obtain ⟨a, xs, rfl, h1, h2⟩ := h
    exact ⟨a, xs, rfl, ⟨e.fz.rd e.nz h1, fun x hx => ⟨RkN.mono e.fz e.nz _ _ (rpn_keys h2 x hx).1, (rpn_keys h2 x hx).2⟩⟩, h2⟩
  | w =>
    obtain ⟨a, xs, rfl, h1, h2⟩ := h
    have z := uni_exz e.fz e.fr
    have nz := uni_nz (B := B) e.nz
    exact ⟨a, xs, rfl, ⟨z.rd nz h1, fun x hx => ⟨RkN.mono z nz _ _ (rpn_keys h2 x hx).1, (rpn_keys h2 x hx).2⟩⟩, h2⟩
  | ce j hj =>
    obtain rfl : v = .ref _ := h
    obtain ⟨_, _, xs, h1, h2⟩ := e.ce _ (List.mem_of_getElem? hj)
    exact ⟨_, xs, rfl, ⟨.inl h1, fun x hx => ⟨RkN.mono e.fz e.nz _ _ (rpn_keys h2 x hx).1, (rpn_keys h2 x hx).2⟩⟩, h2⟩
/-- a tuple held as data is the key, at its place -/
theorem EnF.nk (e : EnF K B F ro ka ta sg H) {v : V} (h : WOk K B F v (.val (nkD (.tup ks)))) : ∃ c, v = .ref c ∧ RkN K F (.tup ks) (.ref c) ∧ RkN K H (.tup ks) (.ref c) := by
  have q := (rk_iff (.tup ks) v).mpr h
  obtain ⟨c, xs, rfl, h1, h2⟩ := q
  exact ⟨c, rfl, (rk_iff _ _).mpr h, RkN.mono e.fz e.nz _ _ ((rk_iff _ _).mpr h)⟩
theorem isSome_rp {xs : List (NestedKey × V)} (h : PT (Rp K F) ds xs) (k : NestedKey) : (getT xs k).isSome = (getT ds k).isSome := by
  cases q : getT ds k with
  | none =>
    rw [(h.get k).1 q]
    rfl
  | some d =>
    obtain ⟨x, hx, _⟩ := (h.get k).2 d q
    rw [hx]
    rfl
theorem ev_nni (h : EvD K ty ro ka (.val (nkD (.tup ks))) k1) (h2 : EvD K td ro k1 w k2) (l : Dn wd k2 w ds b) (dk : (NestedKey.tup ks).depth ≤ 8) : EvD K (tNNotIn K wd ty td) ro ka (.val (.bl (!(getT ds (.tup ks)).isSome))) k2 := fun B F0 ta sg H Q e q =>
  h B F0 ta sg H _ e fun u H1 e1 => h2 B F0 _ sg H1 _ e1 fun v H2 ⟨F, g, ef⟩ => by
    obtain ⟨c, rfl, _, hk⟩ := ef.nk (ef.tm (u, _) (List.mem_cons_of_mem _ List.mem_cons_self))
    obtain ⟨a, xs, rfl, h3, h4⟩ := l.get ef (ef.tm (v, w) List.mem_cons_self)
    refine ⟨a, xs, .tup ks, c, rfl, rfl, h3, hk, dk, q _ _ ?_⟩
    rw [isSome_rp (rpn_pt h4)]
    exact (show En K B F0 ro k2 ta sg H2 from ⟨F, g, ef.held (ta' := ta) fun p hp => List.mem_cons_of_mem _ (List.mem_cons_of_mem _ hp)⟩).push_imm fun _ => rfl
/-- d[key] = v -/
theorem g_nput {j : Nat} (hv : EvD K tv ro ka (.val d) k1) (ho : EvD K td ro k1 (.val (.adr a)) k2) (hi : EvD K ty ro k2 (.val (nkD (.tup ks))) k3) (hj : k3[j]? = some (a, .din wd ds)) (dk : (NestedKey.tup ks).depth ≤ 8) (hz : ds.length < 100000)
    (q : Gp K B F0 ta De.nx ro (k3.set j (a, .din wd (putT ds (.tup ks) d)))) : Gp K B F0 ta (sNPut K wd td ty tv De) ro ka := fun sg H e =>
  hv B F0 ta sg H _ e fun v H1 e1 => ho B F0 _ sg H1 _ e1 fun u H2 e2 => hi B F0 _ sg H2 _ e2 fun y H3 e3 => by
    have hu := e3.tm_adr (v := u) (a := a) (List.mem_cons_of_mem _ List.mem_cons_self)
    subst hu
    obtain ⟨F, g, ef, xs, hx, rx⟩ := e3.cellAt hj
    obtain ⟨c, rfl, hk, hk2⟩ := ef.nk (ef.tm (y, _) List.mem_cons_self)
    have hvd := ef.tm (v, .val d) (List.mem_cons_of_mem _ (List.mem_cons_of_mem _ List.mem_cons_self))
    have n : NAt K H3 wd a xs := ⟨.inl hx, fun x hx => ⟨RkN.mono ef.fz ef.nz _ _ (rpn_keys rx x hx).1, (rpn_keys rx x hx).2⟩⟩
    refine ⟨a, xs, .tup ks, c, rfl, rfl, hx, n, hk2, dk, ?_, q _ _ ⟨F, g, ?_⟩⟩
    · rw [rpn_len rx]
      exact Nat.lt_of_lt_of_le hz (by decide : 100000 ≤ sizeLine)
    · exact (ef.write (o := DnO wd a (putA xs (.tup ks) c v)) (n' := .din wd (putT ds (.tup ks) d)) hj ⟨_, upd_same, rpn_put rx hk dk hvd⟩).held fun p hp => List.mem_cons_of_mem _ (List.mem_cons_of_mem _ (List.mem_cons_of_mem _ hp))
theorem q_nput {j : Nat} (hv : EvD K tv ro ka (.val d) k1) (ho : EvD K td ro k1 (.val (.adr a)) k2) (hi : EvD K ty ro k2 (.val (nkD (.tup ks))) k3) (hj : k3[j]? = some (a, .din wd ds)) (dk : (NestedKey.tup ks).depth ≤ 8) (hz : ds.length < 100000)
    (q : Gp K B F0 ta (u De) ro (k3.set j (a, .din wd (putT ds (.tup ks) d)))) : Gp K B F0 ta (tSeq (sNPut K wd td ty tv) u De) ro ka := g_nput (De := { De with nx := u De }) hv ho hi hj dk hz q
/-- an expression that makes a new cell, as one that comes back with its place -/
theorem EvN.adr (h : EvN K te ro ka n k1) : EvR K te ro ka fun w k => ∃ c, w = .val (.adr c) ∧ k = k1 ++ [(c, n)] := fun B F0 ta sg H Q e q =>
  h B F0 ta sg H Q e fun c H' e1 => q _ _ _ _ ⟨c, rfl, rfl⟩ (e1.tmA c)
/-- {} -/
theorem evn_nnew : EvN K (tNNew wd) ro ka (.din wd []) ka := fun B F0 ta sg H Q e q => fun p hp => by
  obtain ⟨F, g, e⟩ := e
  exact q p _ ⟨F, g, e.cell (o := DnO wd p []) hp (n := .din wd []) ⟨[], upd_same, rfl⟩⟩
/-- a dict of nested keys, frozen -/
theorem En.freeze_n (e : En K B F0 ro (ka ++ [(a, .din wd ds)]) ta sg H) : En K B F0 ro ka ((.ref a, .val (.din wd ds)) :: ta) sg H := by
  obtain ⟨F, g, e⟩ := e
  obtain ⟨fa, ba, xs, ha, rl⟩ := e.ce (a, .din wd ds) (by simp)
  have gg : Gr B F (upd F a (DnO wd a xs)) := ⟨Sub.new fa, fun b h1 h2 => by
    have ne : b ≠ a := fun q => h2 (q ▸ ba)
    rw [upd_ne ne]
    exact h1⟩
  have nd2 := e.nd
  rw [List.map_append, List.nodup_append] at nd2
  refine ⟨_, g.trans gg, ⟨fun b u h => ?_, fun b u h => ?_, e.fr, nd2.1, fun q hq => ?_, e.ln, fun i w h => ?_, fun q hq => ?_⟩⟩
  · by_cases hb : b = a
    · subst hb; rw [upd_same] at h; cases h; rfl
    · rw [upd_ne hb] at h; exact e.nz b u h
  · by_cases hb : b = a
    · subst hb; rw [upd_same] at h; cases h; exact .inl ha
    · rw [upd_ne hb] at h; exact e.fz b u h
  · obtain ⟨h1, h2, h3⟩ := e.ce q (List.mem_append_left _ hq)
    have nq : q.1 ≠ a := fun z => nd2.2.2 q.1 (List.mem_map.mpr ⟨q, hq, rfl⟩) a (by simp) z
    exact ⟨by rw [upd_ne nq]; exact h1, h2, ndok_gr e.nz gg h3⟩
  · obtain ⟨v, h1, h2⟩ := e.sl i w h
    exact ⟨v, h1, wok_gr e.nz gg h2⟩
  · rcases List.mem_cons.mp hq with rfl | hq
    · exact ⟨a, xs, rfl, .inl upd_same, RpN.mono gg.sub.exz e.nz _ _ rl⟩
    · exact wok_gr e.nz gg (e.tm q hq)
theorem EvN.din (h : EvN K te ro ka (.din wd ds) k1) : EvD K te ro ka (.val (.din wd ds)) k1 := fun B F0 ta sg H Q e q => h B F0 ta sg H Q e fun a H1 e1 => q _ _ e1.freeze_n
end
end DL

/-! FL: searches by levels in plain Lean; sub-rows; what a machine has begun (own work). -/
namespace DL
open PySem L2 PySem.W

/-! ### sub-rows -/
def subs {α : Type} : List α → List (List α)
  | [] => [[]]
  | x :: xs => subs xs ++ (subs xs).map (x :: ·)
theorem subs_len {α : Type} : ∀ xs : List α, (subs xs).length = 2 ^ xs.length
  | [] => rfl
  | x :: xs => by
    rw [subs, List.length_append, List.length_map, subs_len xs, List.length_cons, Nat.pow_succ]
    omega
theorem flt_subs {α : Type} (p : α → Bool) : ∀ xs : List α, xs.filter p ∈ subs xs
  | [] => List.mem_singleton.mpr rfl
  | x :: xs => by
    rw [subs, List.filter_cons]
    split
    · exact List.mem_append_right _ (List.mem_map.mpr ⟨_, flt_subs p xs, rfl⟩)
    · exact List.mem_append_left _ (flt_subs p xs)
/-- different things out of a row are no more than it -/
theorem nd_sub {α : Type} [DecidableEq α] : ∀ {xs ys : List α}, xs.Nodup → (∀ x ∈ xs, x ∈ ys) → xs.length ≤ ys.length
  | [], _, _, _ => Nat.zero_le _
  | x :: xs, ys, hn, h => by
    have hx := h x List.mem_cons_self
    obtain ⟨h1, h2⟩ := List.nodup_cons.mp hn
    have := nd_sub (ys := ys.erase x) h2 fun y hy => (List.mem_erase_of_ne fun e => by subst e; exact h1 hy).mpr (h y (List.mem_cons_of_mem _ hy))
    rw [List.length_erase_of_mem hx] at this
    have := List.length_pos_of_mem hx
    rw [List.length_cons]
    omega

/-! ### ways along edges that have names -/
section
variable {α : Type} [DecidableEq α]
/-- from s by these names to v -/
inductive Pt (sc : α → List (Str × α)) (s : α) : List Str → α → Prop where
  | nil : Pt sc s [] s
  | snoc {ls : List Str} {x : α} {e : Str × α} (h : Pt sc s ls x) (he : e ∈ sc x) : Pt sc s (ls ++ [e.1]) e.2
/-- a search: the things met, each by a way; the first `at` are done, of the next the edges E -/
structure BIn (sc : α → List (Str × α)) (s : α) (at_ : Nat) (E : List (Str × α)) (qs : List (α × List Str)) : Prop where
  nd : (qs.map (·.1)).Nodup
  ini : qs[0]? = some (s, [])
  pt : ∀ q ∈ qs, Pt sc s q.2 q.1
  mono : ∀ (i j : Nat) (p q : α × List Str), i ≤ j → qs[i]? = some p → qs[j]? = some q → p.2.length ≤ q.2.length
  lev : ∀ c, qs[at_]? = some c → ∀ q ∈ qs, q.2.length ≤ c.2.length + 1
  cl : ∀ (i : Nat) (c : α × List Str), i < at_ → qs[i]? = some c → ∀ e ∈ sc c.1, ∃ q ∈ qs, q.1 = e.2 ∧ q.2.length ≤ c.2.length + 1
  cE : ∀ c, qs[at_]? = some c → ∀ e ∈ E, ∃ q ∈ qs, q.1 = e.2 ∧ q.2.length ≤ c.2.length + 1
variable {sc : α → List (Str × α)} {s : α} {at_ : Nat} {E : List (Str × α)} {qs : List (α × List Str)}
theorem BIn.start (sc : α → List (Str × α)) (s : α) : BIn sc s 0 [] [(s, [])] where
  nd := by simp
  ini := rfl
  pt := fun q hq => by
    rw [List.mem_singleton.mp hq]
    exact .nil
  mono := fun i j p q _ hp hq => by
    have h1 := List.mem_of_getElem? hp
    have h2 := List.mem_of_getElem? hq
    rw [List.mem_singleton.mp h1, List.mem_singleton.mp h2]
    exact Nat.le_refl _
  lev := fun c hc q hq => by
    rw [List.mem_singleton.mp hq]
    exact Nat.zero_le _
  cl := fun i c h => by omega
  cE := fun c _ e he => nomatch he
/-- an edge to what was met -/
theorem BIn.old (b : BIn sc s at_ E qs) {e : Str × α} (h : e.2 ∈ qs.map (·.1)) : BIn sc s at_ (E ++ [e]) qs := { b with
  cE := fun c hc e' he => by
    rcases List.mem_append.mp he with he | he
    · exact b.cE c hc e' he
    · rw [List.mem_singleton.mp he]
      obtain ⟨q, hq, e1⟩ := List.mem_map.mp h
      exact ⟨q, hq, e1, b.lev c hc q hq⟩ }
/-- an edge to a new thing -/
theorem BIn.new (b : BIn sc s at_ E qs) {c : α × List Str} (hc : qs[at_]? = some c) {e : Str × α} (he : e ∈ sc c.1) (h : e.2 ∉ qs.map (·.1)) : BIn sc s at_ (E ++ [e]) (qs ++ [(e.2, c.2 ++ [e.1])]) := by
  have hlt : at_ < qs.length := (List.getElem?_eq_some_iff.mp hc).1
  have old : ∀ {i : Nat} {x : α × List Str}, i < qs.length → (qs ++ [(e.2, c.2 ++ [e.1])])[i]? = some x → qs[i]? = some x := fun hi hx => by rwa [List.getElem?_append_left hi] at hx
  have hc' : ∀ x, (qs ++ [(e.2, c.2 ++ [e.1])])[at_]? = some x → x = c := fun x hx => by
    have := old hlt hx
    rw [hc] at this
    exact (Option.some.inj this).symm
  refine ⟨?_, ?_, fun q hq => ?_, fun i j p q hij hp hq => ?_, fun x hx q hq => ?_, fun i x hi hx e' he' => ?_, fun x hx e' he' => ?_⟩
  · rw [List.map_append, List.nodup_append]
    exact ⟨b.nd, by simp, fun x hx y hy => by
      rw [List.map_cons, List.map_nil, List.mem_singleton] at hy
      rintro rfl
      rw [hy] at hx
      exact h hx⟩
  · rw [List.getElem?_append_left (Nat.lt_of_le_of_lt (Nat.zero_le _) hlt)]
    exact b.ini
  · rcases List.mem_append.mp hq with hq | hq
    · exact b.pt q hq
    · rw [List.mem_singleton.mp hq]
      exact .snoc (b.pt c (List.mem_of_getElem? hc)) he
  · have key : ∀ {k : Nat} {x : α × List Str}, (qs ++ [(e.2, c.2 ++ [e.1])])[k]? = some x → (k < qs.length ∧ qs[k]? = some x) ∨ (k = qs.length ∧ x = (e.2, c.2 ++ [e.1])) := fun {k x} hx => by
      by_cases hk : k < qs.length
      · exact .inl ⟨hk, old hk hx⟩
      · have hk2 := (List.getElem?_eq_some_iff.mp hx).1
        rw [List.length_append, List.length_singleton] at hk2
        have hk3 : k = qs.length := by omega
        subst hk3
        rw [List.getElem?_append_right (Nat.le_refl _), Nat.sub_self] at hx
        exact .inr ⟨rfl, (Option.some.inj hx).symm⟩
    rcases key hp with ⟨h1, hp⟩ | ⟨h1, rfl⟩ <;> rcases key hq with ⟨h2, hq⟩ | ⟨h2, rfl⟩
    · exact b.mono i j p q hij hp hq
    · have := b.lev c hc p (List.mem_of_getElem? hp)
      rw [List.length_append, List.length_singleton]
      exact this
    · omega
    · exact Nat.le_refl _
  · rw [hc' x hx]
    rcases List.mem_append.mp hq with hq | hq
    · exact b.lev c hc q hq
    · rw [List.mem_singleton.mp hq, List.length_append]
      exact Nat.le_refl _
  · obtain ⟨q, hq, r⟩ := b.cl i x hi (old (by omega) hx) e' he'
    exact ⟨q, List.mem_append_left _ hq, r⟩
  · rw [hc' x hx]
    rcases List.mem_append.mp he' with he' | he'
    · obtain ⟨q, hq, r⟩ := b.cE c hc e' he'
      exact ⟨q, List.mem_append_left _ hq, r⟩
    · rw [List.mem_singleton.mp he']
      exact ⟨_, List.mem_append_right _ (List.mem_singleton.mpr rfl), rfl, by rw [List.length_append]; exact Nat.le_refl _⟩
/-- all edges of a thing are done -/
theorem BIn.next (b : BIn sc s at_ E qs) (hE : ∀ c, qs[at_]? = some c → ∀ e ∈ sc c.1, e ∈ E) (hlt : at_ < qs.length) : BIn sc s (at_ + 1) [] qs := by
  obtain ⟨c0, hc0⟩ : ∃ c, qs[at_]? = some c := ⟨_, List.getElem?_eq_getElem hlt⟩
  refine { b with lev := fun c hc q hq => ?_, cl := fun i c hi hc e he => ?_, cE := fun c _ e he => nomatch he }
  · have h1 := b.lev c0 hc0 q hq
    have h2 := b.mono at_ (at_ + 1) c0 c (Nat.le_succ _) hc0 hc
    omega
  · rcases Nat.lt_or_ge i at_ with h | h
    · exact b.cl i c h hc e he
    · have : i = at_ := by omega
      subst this
      exact b.cE c hc e (hE c hc e he)
/-- the first thing met of a kind is met by a shortest way -/
theorem BIn.least (b : BIn sc s at_ [] qs) {G : α → Prop} (no : ∀ (i : Nat) (q : α × List Str), i < at_ → qs[i]? = some q → ¬ G q.1) {c : α × List Str} (hc : qs[at_]? = some c) {ls : List Str} {v : α} (hp : Pt sc s ls v) (hg : G v) : c.2.length ≤ ls.length := by
  refine Nat.le_of_not_lt fun lt => ?_
  have key : ∀ (ls : List Str) (v : α), Pt sc s ls v → ls.length < c.2.length → ∃ (i : Nat) (q : α × List Str), i < at_ ∧ qs[i]? = some q ∧ q.1 = v ∧ q.2.length ≤ ls.length := by
    intro ls v hp
    induction hp with
    | nil =>
      intro h
      refine ⟨0, (s, []), Nat.pos_of_ne_zero fun z => ?_, b.ini, rfl, Nat.le_refl _⟩
      subst z
      rw [b.ini] at hc
      cases hc
      exact Nat.lt_irrefl _ h
    | @snoc ls x e _ he ih =>
      intro h
      rw [List.length_append, List.length_singleton] at h ⊢
      obtain ⟨i, q, hi, hq, e1, e2⟩ := ih (by omega)
      obtain ⟨q', hq', e3, e4⟩ := b.cl i q hi hq e (e1 ▸ he)
      obtain ⟨j, hj⟩ := List.getElem?_of_mem hq'
      refine ⟨j, q', Nat.lt_of_not_le fun z => ?_, hj, e3, by omega⟩
      have := b.mono at_ j c q' z hc hj
      omega
  obtain ⟨i, q, hi, hq, e1, _⟩ := key ls v hp lt
  exact no i q hi hq (e1 ▸ hg)
/-- when all is done, all that can be met was met -/
theorem BIn.all (b : BIn sc s at_ [] qs) (h : qs.length ≤ at_) {ls : List Str} {v : α} (hp : Pt sc s ls v) : v ∈ qs.map (·.1) := by
  induction hp with
  | nil => exact List.mem_map.mpr ⟨_, List.mem_of_getElem? b.ini, rfl⟩
  | @snoc ls x e _ he ih =>
    obtain ⟨q, hq, rfl⟩ := List.mem_map.mp ih
    obtain ⟨i, hi⟩ := List.getElem?_of_mem hq
    have := (List.getElem?_eq_some_iff.mp hi).1
    obtain ⟨q', hq', e3, _⟩ := b.cl i q (by omega) hi e he
    exact List.mem_map.mpr ⟨q', hq', e3⟩
/-- things met out of a row: no more than it has -/
theorem BIn.few (b : BIn sc s at_ E qs) {N : List α} (h0 : s ∈ N) (hN : ∀ x ∈ N, ∀ e ∈ sc x, e.2 ∈ N) : qs.length ≤ N.length := by
  have := nd_sub (ys := N) b.nd fun x hx => by
    obtain ⟨q, hq, rfl⟩ := List.mem_map.mp hx
    have := b.pt q hq
    generalize q.1 = v at this
    generalize q.2 = ls at this
    induction this with
    | nil => exact h0
    | snoc _ he ih => exact hN _ ih _ he
  rwa [List.length_map] at this
end

/-! ### what is begun -/
def begM (m : Mc) (ps : List Nat) (x : Str) : List Nat := ((List.range m.at_.length).filter fun a => decide (a ∈ m.fi) || behM m ps a).filter fun a => tkM m a x
/-- the atoms by which the lane gone last is read -/
def stM (m : Mc) (ls : List Str) : List Nat := ls.foldl (begM m) []
end DL

/-! FM: dicts with nested keys: walked, copied (one entry), set beside the empty one (own work). -/
namespace DL
open PySem L2 PySem.W PyProof.Rows

section
variable {X : Cx} {pins : List (Addr × Obj)} {σ : L2.St} {H : Hp} {s : Shared} {d : Addr} {o : Obj} {xs : List (NestedKey × Addr × V)}
end
section
variable {X : Cx} {o i e tg : Expr} {pos pos' : Pos} {td ty tv tk : TE}
end

section
variable {K : PySem.W.Frag} {B F F0 : Hp} {ro : Ro} {ka k1 k2 k3 kr : Cells} {ta : List (V × W)} {sg : L2.St} {H H' : Hp} {te tf tg tk tv : TE} {tt : TT} {w x y : W} {n : Nd} {a : Addr} {b : Bool} {De : Ends} {u : TS} {wi : TI} {ws : List W}
end

/-! ### by data -/
section
variable {K : PySem.W.Frag} {B F F0 : Hp} {ro : Ro} {ka k1 k2 k3 kr : Cells} {ta : List (V × W)} {sg : L2.St} {H H' : Hp} {te tf tg tk tv : TE} {tt : TT} {w x y z : W} {a : Addr} {b : Bool} {wd : World} {ds : List (NestedKey × D)}
end
end DL

/-! FN: searches by levels of one distance; a machine told by a law (own work). -/
namespace DL
open PySem L2 PySem.W
section
variable {α : Type} [DecidableEq α] {sc : α → List (Str × α)} {s : α} {n : Nat} {L Kn N : List α} {G : α → Prop}
theorem pt_in (h0 : s ∈ N) (hN : ∀ x ∈ N, ∀ e ∈ sc x, e.2 ∈ N) {ls : List Str} {x : α} (h : Pt sc s ls x) : x ∈ N := by
  induction h with
  | nil => exact h0
  | snoc _ he ih => exact hN _ ih _ he
theorem pt_last {ls : List Str} {y : α} (h : Pt sc s ls y) : (ls = [] ∧ y = s) ∨ ∃ us x e, Pt sc s us x ∧ e ∈ sc x ∧ e.2 = y ∧ ls = us ++ [e.1] := by
  cases h with
  | nil => exact .inl ⟨rfl, rfl⟩
  | snoc h he => exact .inr ⟨_, _, _, h, he, rfl, rfl⟩
/-- L is what is met behind n steps and not earlier, Kn what is met behind n steps or earlier -/
structure LvI (sc : α → List (Str × α)) (s : α) (n : Nat) (L Kn : List α) : Prop where
  nd : Kn.Nodup
  sub : ∀ x ∈ L, x ∈ Kn
  ndL : L.Nodup
  pt : ∀ x ∈ L, ∃ ls, ls.length = n ∧ Pt sc s ls x
  rc : ∀ x ∈ Kn, ∃ ls, Pt sc s ls x
  kn : ∀ ls x, Pt sc s ls x → ls.length ≤ n → x ∈ Kn
  lv : ∀ x ∈ Kn, x ∈ L ∨ ∃ ls, ls.length < n ∧ Pt sc s ls x
theorem LvI.start (sc : α → List (Str × α)) (s : α) : LvI sc s 0 [s] [s] where
  nd := List.nodup_cons.mpr ⟨List.not_mem_nil, List.nodup_nil⟩
  ndL := List.nodup_cons.mpr ⟨List.not_mem_nil, List.nodup_nil⟩
  sub := fun _ h => h
  pt := fun x h => ⟨[], rfl, by rw [List.mem_singleton.mp h]; exact .nil⟩
  rc := fun x h => ⟨[], by rw [List.mem_singleton.mp h]; exact .nil⟩
  kn := fun ls x h hl => by
    rcases pt_last h with ⟨_, e⟩ | ⟨us, y, e, _, _, _, e2⟩
    · exact List.mem_singleton.mpr e
    · rw [e2, List.length_append, List.length_singleton] at hl
      omega
  lv := fun x h => .inl h
theorem LvI.next (h : LvI sc s n L Kn) {F : List α} (hF : ∀ y, y ∈ F ↔ ∃ x ∈ L, ∃ e ∈ sc x, e.2 = y) (nF : F.Nodup) {p : α → Bool} (hp : ∀ y, p y = true ↔ y ∉ Kn) : LvI sc s (n + 1) (F.filter p) (Kn ++ F.filter p) := by
  have new : ∀ x, x ∈ F.filter p ↔ x ∈ F ∧ x ∉ Kn := fun x => by rw [List.mem_filter, hp]
  have step : ∀ y ∈ F, ∃ ls, ls.length = n + 1 ∧ Pt sc s ls y := fun y hy => by
    obtain ⟨x, hx, e, he, rfl⟩ := (hF y).mp hy
    obtain ⟨ls, hl, hp⟩ := h.pt x hx
    exact ⟨ls ++ [e.1], by rw [List.length_append, hl]; rfl, hp.snoc he⟩
  refine ⟨?_, fun x hx => List.mem_append_right _ hx, nF.filter _, fun x hx => step x ((new x).mp hx).1, fun x hx => ?_, fun ls x hp hl => ?_, fun x hx => ?_⟩
  · rw [List.nodup_append]
    exact ⟨h.nd, nF.filter _, fun x hx y hy e => ((new y).mp hy).2 (e ▸ hx)⟩
  · rcases List.mem_append.mp hx with hx | hx
    · exact h.rc x hx
    · obtain ⟨ls, _, hp⟩ := step x ((new x).mp hx).1
      exact ⟨ls, hp⟩
  · by_cases hx : x ∈ Kn
    · exact List.mem_append_left _ hx
    · refine List.mem_append_right _ ((new x).mpr ⟨?_, hx⟩)
      rcases pt_last hp with ⟨e1, e2⟩ | ⟨us, y, e, hy, he, e2, e3⟩
      · exact absurd (h.kn [] x (by rw [e2]; exact .nil) (Nat.zero_le _)) hx
      · rw [e3, List.length_append, List.length_singleton] at hl
        rcases h.lv y (h.kn us y hy (by omega)) with hL | ⟨vs, hv, hy2⟩
        · exact (hF x).mpr ⟨y, hL, e, he, e2⟩
        · exact absurd (h.kn (vs ++ [e.1]) x (e2 ▸ hy2.snoc he) (by rw [List.length_append, List.length_singleton]; omega)) hx
  · rcases List.mem_append.mp hx with hx | hx
    · rcases h.lv x hx with hL | ⟨ls, hl, hp⟩
      · obtain ⟨ls, hl, hp⟩ := h.pt x hL
        exact .inr ⟨ls, by omega, hp⟩
      · exact .inr ⟨ls, by omega, hp⟩
    · exact .inl hx
theorem LvI.short (h : LvI sc s n [] Kn) : ∀ ls x, Pt sc s ls x → ∃ us, us.length < n ∧ Pt sc s us x := by
  intro ls x hp
  induction hp with
  | nil =>
    rcases h.lv s (h.kn [] s .nil (Nat.zero_le _)) with hL | hL
    · cases hL
    · exact hL
  | @snoc ls x e _ he ih =>
    obtain ⟨us, hu, hp⟩ := ih
    rcases h.lv e.2 (h.kn _ _ (hp.snoc he) (by rw [List.length_append, List.length_singleton]; omega)) with hL | hL
    · cases hL
    · exact hL
theorem LvI.few (h : LvI sc s n L Kn) (h0 : s ∈ N) (hN : ∀ x ∈ N, ∀ e ∈ sc x, e.2 ∈ N) : Kn.length ≤ N.length := nd_sub h.nd fun x hx => by
  obtain ⟨ls, hp⟩ := h.rc x hx
  exact pt_in h0 hN hp
end
/-! ### a machine as a law makes it -/
/-- the same machine, its parts in another order -/
structure McE (m n : Mc) : Prop where
  at_ : m.at_ = n.at_
  fi : ∀ a, a ∈ m.fi ↔ a ∈ n.fi
  la : ∀ a, a ∈ m.la ↔ a ∈ n.la
  pr : ∀ p, p ∈ m.pr ↔ p ∈ n.pr
  op : m.op = n.op
section
variable {m n : Mc}
theorem McE.tk (e : McE m n) (a : Nat) (x : Str) : tkM m a x = tkM n a x := by
  unfold tkM
  rw [e.at_]
theorem McE.beh (e : McE m n) (ps : List Nat) (a : Nat) : behM m ps a = behM n ps a := by
  unfold behM
  simp only [e.pr]
theorem McE.beg (e : McE m n) (ps : List Nat) (x : Str) : begM m ps x = begM n ps x := by
  unfold begM
  simp only [e.tk, e.beh, e.fi, e.at_]
theorem McE.done (e : McE m n) (ps : List Nat) : doneM m ps = doneM n ps := by
  unfold doneM
  simp only [e.la]
theorem McE.st (e : McE m n) (ls : List Str) : stM m ls = stM n ls := by
  unfold stM
  rw [show begM m = begM n from funext fun ps => funext fun x => e.beg ps x]
theorem McE.refl : McE m m := ⟨rfl, fun _ => Iff.rfl, fun _ => Iff.rfl, fun _ => Iff.rfl, rfl⟩
end
end DL

/-! FO: shortest words that part two machines, searched by levels, in plain Lean (own work). -/
namespace DL
open PySem L2 PySem.W

/-! ### sub-rows again -/
theorem subs_iff {α : Type} {xs ys : List α} : ys ∈ subs xs ↔ ys.Sublist xs := by
  induction xs generalizing ys with
  | nil => rw [subs, List.mem_singleton, List.sublist_nil]
  | cons x xs ih =>
    rw [subs, List.mem_append, List.mem_map]
    constructor
    · rintro (h | ⟨zs, h, rfl⟩)
      · exact (ih.mp h).cons _
      · exact (ih.mp h).cons_cons _
    · intro h
      cases h with
      | cons _ h => exact .inl (ih.mpr h)
      | cons_cons _ h => exact .inr ⟨_, ih.mpr h, rfl⟩
theorem mc_fi_sub : ∀ (t : Tr) (s : Nat), (mcT t s).fi.Sublist (List.range' s (mcT t s).at_.length)
  | .at k ns, s => List.Sublist.refl _
  | .rep a, s => mc_fi_sub a s
  | .opt a, s => mc_fi_sub a s
  | .either a b, s => by
    show ((mcT a s).fi ++ (mcT b (s + (mcT a s).at_.length)).fi).Sublist (List.range' s ((mcT a s).at_ ++ (mcT b (s + (mcT a s).at_.length)).at_).length)
    rw [List.length_append, ← List.range'_append_1]
    exact (mc_fi_sub a s).append (mc_fi_sub b _)
  | .join a b, s => by
    show (if (mcT a s).op then (mcT a s).fi ++ (mcT b (s + (mcT a s).at_.length)).fi else (mcT a s).fi).Sublist (List.range' s ((mcT a s).at_ ++ (mcT b (s + (mcT a s).at_.length)).at_).length)
    rw [List.length_append, ← List.range'_append_1]
    split
    · exact (mc_fi_sub a s).append (mc_fi_sub b _)
    · exact (mc_fi_sub a s).trans (List.sublist_append_left _ _)
theorem start_sub (t : Tr) (x : Str) : startM (mcT t 0) x ∈ subs (List.range (mcT t 0).at_.length) := by
  rw [subs_iff, List.range_eq_range']
  exact (List.filter_sublist).trans (mc_fi_sub t 0)
theorem after_sub (m : Mc) (ps : List Nat) (x : Str) : afterM m ps x ∈ subs (List.range m.at_.length) := flt_subs _ _

/-! ### words and what two machines make of them -/
abbrev P2 := List Nat × List Nat
def st2 (m n : Mc) (w : List Str) : P2 := (runM m w, runM n w)
def nx2 (m n : Mc) (p : P2) (x : Str) : P2 := (afterM m p.1 x, afterM n p.2 x)
theorem st2_snoc {m n : Mc} {w : List Str} {x : Str} (h : w ≠ []) : st2 m n (w ++ [x]) = nx2 m n (st2 m n w) x := by
  unfold st2 nx2
  rw [run_snoc h, run_snoc h]
/-- all pairs there can be -/
def p2All (m n : Mc) : List P2 := (subs (List.range m.at_.length)).flatMap fun a => (subs (List.range n.at_.length)).map fun b => (a, b)
theorem p2All_len (m n : Mc) : (p2All m n).length = 2 ^ m.at_.length * 2 ^ n.at_.length := by
  have key : ∀ (xs : List (List Nat)), (xs.flatMap fun a => (subs (List.range n.at_.length)).map fun b => (a, b)).length = xs.length * 2 ^ n.at_.length := fun xs => by
    induction xs with
    | nil => simp
    | cons x xs ih => rw [List.flatMap_cons, List.length_append, ih, List.length_map, subs_len, List.length_range, List.length_cons, Nat.add_mul, Nat.one_mul, Nat.add_comm]
  unfold p2All
  rw [key, subs_len, List.length_range]
theorem p2All_mem {m n : Mc} {p : P2} (h1 : p.1 ∈ subs (List.range m.at_.length)) (h2 : p.2 ∈ subs (List.range n.at_.length)) : p ∈ p2All m n :=
  List.mem_flatMap.mpr ⟨p.1, h1, List.mem_map.mpr ⟨p.2, h2, rfl⟩⟩
theorem st2_all (t u : Tr) {w : List Str} (h : w ≠ []) : st2 (mcT t 0) (mcT u 0) w ∈ p2All (mcT t 0) (mcT u 0) := by
  have key : ∀ (t : Tr) (w : List Str), w ≠ [] → runM (mcT t 0) w ∈ subs (List.range (mcT t 0).at_.length) := fun t w h => by
    obtain ⟨ys, y, rfl⟩ : ∃ ys y, w = ys ++ [y] := ⟨w.dropLast, w.getLast h, (List.dropLast_concat_getLast h).symm⟩
    by_cases e : ys = []
    · subst e
      exact start_sub t y
    · rw [run_snoc e]
      exact after_sub _ _ _
  exact p2All_mem (key t w h) (key u w h)

/-! ### the search -/
/-- words told so far; the first `at_` are done; ks: the pairs that were met -/
structure WIn (m n : Mc) (N : List Str) (at_ : Nat) (ks : List P2) (qs : List (List Str)) : Prop where
  ini : ∀ x ∈ N, [x] ∈ qs
  ne : ∀ q ∈ qs, q ≠ []
  mono : ∀ (i j : Nat) (p q : List Str), i ≤ j → qs[i]? = some p → qs[j]? = some q → p.length ≤ q.length
  lev : ∀ c, qs[at_]? = some c → ∀ q ∈ qs, q.length ≤ c.length + 1
  old : ∀ k ∈ ks, ∃ (j : Nat) (q : List Str), j < at_ ∧ qs[j]? = some q ∧ st2 m n q = k ∧ ∀ x ∈ N, q ++ [x] ∈ qs
  kn : ∀ (i : Nat) (c : List Str), i < at_ → qs[i]? = some c → st2 m n c ∈ ks
  cl : ∀ (i : Nat) (c : List Str), i < at_ → qs[i]? = some c → ∃ (j : Nat) (q : List Str), j ≤ i ∧ qs[j]? = some q ∧ st2 m n q = st2 m n c ∧ ∀ x ∈ N, q ++ [x] ∈ qs
  nd : ks.Nodup
  len : qs.length = N.length * (ks.length + 1)
  ll : ∀ q ∈ qs, q.length ≤ ks.length + 1
  lt : ∀ q ∈ qs, ∀ x ∈ q, x ∈ N
section
variable {m n : Mc} {N : List Str} {at_ : Nat} {ks : List P2} {qs : List (List Str)}
theorem WIn.start (m n : Mc) (N : List Str) : WIn m n N 0 [] (N.map fun x => [x]) where
  ini := fun x hx => List.mem_map.mpr ⟨x, hx, rfl⟩
  ne := fun q hq => by
    obtain ⟨x, _, rfl⟩ := List.mem_map.mp hq
    exact List.cons_ne_nil _ _
  mono := fun i j p q _ hp hq => by
    obtain ⟨x, _, rfl⟩ := List.mem_map.mp (List.mem_of_getElem? hp)
    obtain ⟨y, _, rfl⟩ := List.mem_map.mp (List.mem_of_getElem? hq)
    exact Nat.le_refl _
  lev := fun c _ q hq => by
    obtain ⟨x, _, rfl⟩ := List.mem_map.mp hq
    exact Nat.succ_le_succ (Nat.zero_le _)
  old := fun k hk => nomatch hk
  kn := fun i c h => absurd h (Nat.not_lt_zero _)
  cl := fun i c h => absurd h (Nat.not_lt_zero _)
  nd := List.nodup_nil
  len := by rw [List.length_map]; exact (Nat.mul_one _).symm
  ll := fun q hq => by
    obtain ⟨x, _, rfl⟩ := List.mem_map.mp hq
    exact Nat.le_refl _
  lt := fun q hq y hy => by
    obtain ⟨x, hx, rfl⟩ := List.mem_map.mp hq
    rw [List.mem_singleton.mp hy]
    exact hx
/-- a pair that was met -/
theorem WIn.again (b : WIn m n N at_ ks qs) {c : List Str} (hc : qs[at_]? = some c) (h : st2 m n c ∈ ks) : WIn m n N (at_ + 1) ks qs := { b with
  lev := fun d hd q hq => by
    have h1 := b.lev c hc q hq
    have h2 := b.mono at_ (at_ + 1) c d (Nat.le_succ _) hc hd
    omega
  old := fun k hk => by
    obtain ⟨j, q, h1, r⟩ := b.old k hk
    exact ⟨j, q, Nat.lt_succ_of_lt h1, r⟩
  kn := fun i d hi hd => by
    rcases Nat.lt_or_ge i at_ with g | g
    · exact b.kn i d g hd
    · have : i = at_ := by omega
      subst this
      rw [hc] at hd
      cases hd
      exact h
  cl := fun i d hi hd => by
    rcases Nat.lt_or_ge i at_ with g | g
    · exact b.cl i d g hd
    · have : i = at_ := by omega
      subst this
      rw [hc] at hd
      cases hd
      obtain ⟨j, q, h1, h2, h3, h4⟩ := b.old _ h
      exact ⟨j, q, Nat.le_of_lt h1, h2, h3, h4⟩ }
/-- a new pair -/
theorem WIn.new (b : WIn m n N at_ ks qs) {c : List Str} (hc : qs[at_]? = some c) (h : st2 m n c ∉ ks) : WIn m n N (at_ + 1) (ks ++ [st2 m n c]) (qs ++ N.map fun x => c ++ [x]) := by
  have hlt : at_ < qs.length := (List.getElem?_eq_some_iff.mp hc).1
  have up : ∀ {i : Nat} {x : List Str}, qs[i]? = some x → (qs ++ N.map fun x => c ++ [x])[i]? = some x := fun {i x} hx => by rwa [List.getElem?_append_left (List.getElem?_eq_some_iff.mp hx).1]
  have key : ∀ {k : Nat} {x : List Str}, (qs ++ N.map fun x => c ++ [x])[k]? = some x → (k < qs.length ∧ qs[k]? = some x) ∨ (qs.length ≤ k ∧ x.length = c.length + 1) := fun {k x} hx => by
    by_cases hk : k < qs.length
    · rw [List.getElem?_append_left hk] at hx
      exact .inl ⟨hk, hx⟩
    · rw [List.getElem?_append_right (Nat.le_of_not_lt hk)] at hx
      obtain ⟨y, _, rfl⟩ := List.mem_map.mp (List.mem_of_getElem? hx)
      exact .inr ⟨Nat.le_of_not_lt hk, by rw [List.length_append]; rfl⟩
  have low : ∀ {i : Nat} {x : List Str}, i < at_ + 1 → (qs ++ N.map fun x => c ++ [x])[i]? = some x → qs[i]? = some x := fun {i x} hi hx => by
    rcases key hx with ⟨_, h⟩ | ⟨h, _⟩
    · exact h
    · omega
  have le1 : ∀ {q : List Str}, q ∈ qs ++ N.map (fun x => c ++ [x]) → q.length ≤ c.length + 1 := fun {q} hq => by
    rcases List.mem_append.mp hq with hq | hq
    · exact b.lev c hc q hq
    · obtain ⟨y, _, rfl⟩ := List.mem_map.mp hq
      rw [List.length_append]
      exact Nat.le_refl _
  have own : ∀ x ∈ N, c ++ [x] ∈ qs ++ N.map (fun x => c ++ [x]) := fun x hx => List.mem_append_right _ (List.mem_map.mpr ⟨x, hx, rfl⟩)
  refine ⟨fun x hx => List.mem_append_left _ (b.ini x hx), fun q hq => ?_, fun i j p q hij hp hq => ?_, fun d hd q hq => ?_, fun k hk => ?_, fun i d hi hd => ?_, fun i d hi hd => ?_, ?_, ?_, fun q hq => ?_, fun q hq z hz => ?_⟩
  · rcases List.mem_append.mp hq with hq | hq
    · exact b.ne q hq
    · obtain ⟨y, _, rfl⟩ := List.mem_map.mp hq
      simp
  · rcases key hp with ⟨h1, hp⟩ | ⟨h1, e1⟩ <;> rcases key hq with ⟨h2, hq⟩ | ⟨h2, e2⟩
    · exact b.mono i j p q hij hp hq
    · rw [e2]
      exact b.lev c hc p (List.mem_of_getElem? hp)
    · omega
    · omega
  · have h1 := le1 hq
    have h2 : c.length ≤ d.length := by
      rcases key hd with ⟨_, hd⟩ | ⟨_, e⟩
      · exact b.mono at_ (at_ + 1) c d (Nat.le_succ _) hc hd
      · omega
    omega
  · rcases List.mem_append.mp hk with hk | hk
    · obtain ⟨j, q, h1, h2, h3, h4⟩ := b.old k hk
      exact ⟨j, q, Nat.lt_succ_of_lt h1, up h2, h3, fun x hx => List.mem_append_left _ (h4 x hx)⟩
    · rw [List.mem_singleton.mp hk]
      exact ⟨at_, c, Nat.lt_succ_self _, up hc, rfl, own⟩
  · have hd' := low hi hd
    rcases Nat.lt_or_ge i at_ with g | g
    · exact List.mem_append_left _ (b.kn i d g hd')
    · have : i = at_ := by omega
      subst this
      rw [hc] at hd'
      cases hd'
      exact List.mem_append_right _ (List.mem_singleton.mpr rfl)
  · have hd' := low hi hd
    rcases Nat.lt_or_ge i at_ with g | g
    · obtain ⟨j, q, h1, h2, h3, h4⟩ := b.cl i d g hd'
      exact ⟨j, q, h1, up h2, h3, fun x hx => List.mem_append_left _ (h4 x hx)⟩
    · have : i = at_ := by omega
      subst this
      rw [hc] at hd'
      cases hd'
      exact ⟨i, c, Nat.le_refl _, up hc, rfl, own⟩
  · rw [List.nodup_append]
    exact ⟨b.nd, by simp, fun x hx y hy => by
      rintro rfl
      rw [List.mem_singleton.mp hy] at hx
      exact h hx⟩
  · rw [List.length_append, List.length_map, b.len, List.length_append, List.length_singleton, Nat.mul_succ N.length (ks.length + 1)]
  · rw [List.length_append, List.length_singleton]
    rcases List.mem_append.mp hq with hq | hq
    · exact Nat.le_succ_of_le (b.ll q hq)
    · obtain ⟨y, _, rfl⟩ := List.mem_map.mp hq
      rw [List.length_append]
      exact Nat.succ_le_succ (b.ll c (List.mem_of_getElem? hc))
  · rcases List.mem_append.mp hq with hq | hq
    · exact b.lt q hq z hz
    · obtain ⟨y, hy, rfl⟩ := List.mem_map.mp hq
      rcases List.mem_append.mp hz with hz | hz
      · exact b.lt c (List.mem_of_getElem? hc) z hz
      · rw [List.mem_singleton.mp hz]
        exact hy
/-- every word is met, or one no longer is still to come -/
theorem WIn.met (b : WIn m n N at_ ks qs) {w : List Str} (hne : w ≠ []) (hN : ∀ x ∈ w, x ∈ N) : ∃ (i : Nat) (q : List Str), qs[i]? = some q ∧ q.length ≤ w.length ∧ ((i < at_ ∧ st2 m n q = st2 m n w) ∨ at_ ≤ i) := by
  induction w using list_snoc_ind with
  | nil => exact absurd rfl hne
  | snoc w x ih =>
    have hx := hN x (List.mem_append_right _ (List.mem_singleton.mpr rfl))
    have fin : ∀ q, q ∈ qs → q.length ≤ (w ++ [x]).length → st2 m n q = st2 m n (w ++ [x]) → ∃ (i : Nat) (q : List Str), qs[i]? = some q ∧ q.length ≤ (w ++ [x]).length ∧ ((i < at_ ∧ st2 m n q = st2 m n (w ++ [x])) ∨ at_ ≤ i) := fun q hq hl he => by
      obtain ⟨i, hi⟩ := List.getElem?_of_mem hq
      rcases Nat.lt_or_ge i at_ with g | g
      · exact ⟨i, q, hi, hl, .inl ⟨g, he⟩⟩
      · exact ⟨i, q, hi, hl, .inr g⟩
    by_cases e : w = []
    · subst e
      exact fin [x] (b.ini x hx) (Nat.le_refl _) rfl
    · obtain ⟨i, q, hq, hl, h | h⟩ := ih e fun y hy => hN y (List.mem_append_left _ hy)
      · obtain ⟨j, p, h1, h2, h3, h4⟩ := b.cl i q h.1 hq
        have hp := List.mem_of_getElem? h2
        have hpl := b.mono j i p q h1 h2 hq
        refine fin (p ++ [x]) (h4 x hx) ?_ ?_
        · rw [List.length_append, List.length_append, List.length_singleton]
          omega
        · rw [st2_snoc (b.ne p hp), st2_snoc e, h3, h.2]
      · exact ⟨i, q, hq, by rw [List.length_append]; omega, .inr h⟩
/-- the first pair of a kind is met by a shortest word -/
theorem WIn.least (b : WIn m n N at_ ks qs) {G : P2 → Prop} (no : ∀ k ∈ ks, ¬ G k) {c : List Str} (hc : qs[at_]? = some c) {w : List Str} (hne : w ≠ []) (hN : ∀ x ∈ w, x ∈ N) (hg : G (st2 m n w)) : c.length ≤ w.length := by
  obtain ⟨i, q, hq, hl, h | h⟩ := b.met hne hN
  · exact absurd hg (h.2 ▸ no _ (b.kn i q h.1 hq))
  · exact Nat.le_trans (b.mono at_ i c q h hc hq) hl
theorem WIn.none (b : WIn m n N at_ ks qs) {G : P2 → Prop} (no : ∀ k ∈ ks, ¬ G k) (h : qs.length ≤ at_) {w : List Str} (hne : w ≠ []) (hN : ∀ x ∈ w, x ∈ N) : ¬ G (st2 m n w) := fun hg => by
  obtain ⟨i, q, hq, hl, g | g⟩ := b.met hne hN
  · exact no _ (b.kn i q g.1 hq) (g.2 ▸ hg)
  · have := (List.getElem?_eq_some_iff.mp hq).1
    omega
end

/-! ### names that stand in no atom -/
def namM (m : Mc) : List Str := m.at_.flatMap fun p => p.2
theorem tk_strange {m : Mc} {a : Nat} {x y : Str} (hx : x ∉ namM m) (hy : y ∉ namM m) : tkM m a x = tkM m a y := by
  unfold tkM
  cases e : m.at_[a]? with
  | none => rfl
  | some p =>
    have hp := List.mem_of_getElem? e
    have h1 : x ∉ p.2 := fun z => hx (List.mem_flatMap.mpr ⟨p, hp, z⟩)
    have h2 : y ∉ p.2 := fun z => hy (List.mem_flatMap.mpr ⟨p, hp, z⟩)
    show (decide (x ∈ p.2) == p.1) = (decide (y ∈ p.2) == p.1)
    rw [decide_eq_false h1, decide_eq_false h2]
/-- a strange name in the place of each strange name -/
def rnW (N : List Str) (f : Str) (w : List Str) : List Str := w.map fun x => if x ∈ N then x else f
theorem run_rn {m : Mc} {N : List Str} {f : Str} (h1 : ∀ x ∈ namM m, x ∈ N) (h2 : f ∉ namM m) (w : List Str) : runM m (rnW N f w) = runM m w := by
  have t : ∀ a x, tkM m a (if x ∈ N then x else f) = tkM m a x := fun a x => by
    split
    · rfl
    · rename_i h
      exact tk_strange h2 fun z => h (h1 x z)
  have af : ∀ ps x, afterM m ps (if x ∈ N then x else f) = afterM m ps x := fun ps x => List.filter_congr fun a _ => by rw [t]
  have fold : ∀ (r : List Str) (ps : List Nat), (r.map fun x => if x ∈ N then x else f).foldl (afterM m) ps = r.foldl (afterM m) ps := fun r => by
    induction r with
    | nil => exact fun _ => rfl
    | cons x r ih => exact fun ps => by rw [List.map_cons, List.foldl_cons, List.foldl_cons, af, ih]
  cases w with
  | nil => rfl
  | cons x r =>
    show (r.map _).foldl _ (startM m (if x ∈ N then x else f)) = r.foldl _ (startM m x)
    rw [fold]
    congr 1
    exact List.filter_congr fun a _ => t a x
theorem rn_mem {N : List Str} {f : Str} (hf : f ∈ N) (w : List Str) : ∀ x ∈ rnW N f w, x ∈ N := fun x hx => by
  obtain ⟨y, _, rfl⟩ := List.mem_map.mp hx
  split
  · assumption
  · exact hf

/-! ### what is told -/
/-- a word of the one that is none of the other, or (both sides) the other way round -/
def dfW (t u : Tr) (one : Bool) (w : List Str) : Prop := (Lg t w ∧ ¬ Lg u w) ∨ (one = false ∧ Lg u w ∧ ¬ Lg t w)
def dfB (a b one : Bool) : Bool := a != b && (a || !one)
theorem df_acc {t u : Tr} {one : Bool} {w : List Str} : dfW t u one w ↔ dfB (accM (mcT t 0) w) (accM (mcT u 0) w) one = true := by
  unfold dfW dfB
  rw [← acc_iff, ← acc_iff]
  cases accM (mcT t 0) w <;> cases accM (mcT u 0) w <;> cases one <;> simp
/-- a shortest word that parts, or none if there is none -/
def PaR (t u : Tr) (one : Bool) : Option (List Str) → Prop
  | some w => dfW t u one w ∧ ∀ w', dfW t u one w' → w.length ≤ w'.length
  | none => ∀ w', ¬ dfW t u one w'
def doneP (m n : Mc) (one : Bool) (p : P2) : Bool := dfB (doneM m p.1) (doneM n p.2) one
theorem df_st {t u : Tr} {one : Bool} {w : List Str} (h : w ≠ []) : dfW t u one w ↔ doneP (mcT t 0) (mcT u 0) one (st2 (mcT t 0) (mcT u 0) w) = true := by
  rw [df_acc]
  unfold accM
  rw [if_neg h, if_neg h]
  exact Iff.rfl
section
variable {t u : Tr} {one : Bool} {N : List Str} {f : Str} {at_ : Nat} {ks : List P2} {qs : List (List Str)}
theorem pa_empty (h : dfB (mcT t 0).op (mcT u 0).op one = true) : PaR t u one (some []) := ⟨df_acc.mpr h, fun _ _ => Nat.zero_le _⟩
theorem pa_found (b : WIn (mcT t 0) (mcT u 0) N at_ ks qs) (h0 : dfB (mcT t 0).op (mcT u 0).op one = false) (h1 : ∀ x ∈ namM (mcT t 0) ++ namM (mcT u 0), x ∈ N) (hf : f ∈ N) (h2 : f ∉ namM (mcT t 0) ++ namM (mcT u 0))
    (no : ∀ k ∈ ks, ¬ doneP (mcT t 0) (mcT u 0) one k = true) {c : List Str} (hc : qs[at_]? = some c) (hd : doneP (mcT t 0) (mcT u 0) one (st2 (mcT t 0) (mcT u 0) c) = true) : PaR t u one (some c) := by
  have hne := b.ne c (List.mem_of_getElem? hc)
  refine ⟨(df_st hne).mpr hd, fun w hw => ?_⟩
  by_cases e : w = []
  · subst e
    have := df_acc.mp hw
    rw [show dfB (accM (mcT t 0) []) (accM (mcT u 0) []) one = dfB (mcT t 0).op (mcT u 0).op one from rfl, h0] at this
    cases this
  · have e2 : rnW N f w ≠ [] := fun z => e (List.map_eq_nil_iff.mp z)
    have := b.least no hc e2 (rn_mem hf w) (G := fun k => doneP (mcT t 0) (mcT u 0) one k = true) (by
      have h3 : st2 (mcT t 0) (mcT u 0) (rnW N f w) = st2 (mcT t 0) (mcT u 0) w := by
        unfold st2
        rw [run_rn (fun x hx => h1 x (List.mem_append_left _ hx)) (fun z => h2 (List.mem_append_left _ z)), run_rn (fun x hx => h1 x (List.mem_append_right _ hx)) (fun z => h2 (List.mem_append_right _ z))]
      rw [h3]
      exact (df_st e).mp hw)
    rwa [show (rnW N f w).length = w.length from List.length_map _] at this
theorem pa_none (b : WIn (mcT t 0) (mcT u 0) N at_ ks qs) (h0 : dfB (mcT t 0).op (mcT u 0).op one = false) (h1 : ∀ x ∈ namM (mcT t 0) ++ namM (mcT u 0), x ∈ N) (hf : f ∈ N) (h2 : f ∉ namM (mcT t 0) ++ namM (mcT u 0))
    (no : ∀ k ∈ ks, ¬ doneP (mcT t 0) (mcT u 0) one k = true) (hl : qs.length ≤ at_) : PaR t u one none := fun w hw => by
  by_cases e : w = []
  · subst e
    have := df_acc.mp hw
    rw [show dfB (accM (mcT t 0) []) (accM (mcT u 0) []) one = dfB (mcT t 0).op (mcT u 0).op one from rfl, h0] at this
    cases this
  · have e2 : rnW N f w ≠ [] := fun z => e (List.map_eq_nil_iff.mp z)
    refine b.none no hl e2 (rn_mem hf w) (G := fun k => doneP (mcT t 0) (mcT u 0) one k = true) ?_
    have h3 : st2 (mcT t 0) (mcT u 0) (rnW N f w) = st2 (mcT t 0) (mcT u 0) w := by
      unfold st2
      rw [run_rn (fun x hx => h1 x (List.mem_append_left _ hx)) (fun z => h2 (List.mem_append_left _ z)), run_rn (fun x hx => h1 x (List.mem_append_right _ hx)) (fun z => h2 (List.mem_append_right _ z))]
    rw [h3]
    exact (df_st e).mp hw
end

/-! ### all names -/
def anL (ps : List (Bool × List Str)) : List Str := ps.foldl (fun acc p => acc ++ p.2.filter fun x => !decide (x ∈ acc)) []
theorem an_fold : ∀ (ps : List (Bool × List Str)) (acc : List Str), (∀ x, x ∈ ps.foldl (fun acc p => acc ++ p.2.filter fun x => !decide (x ∈ acc)) acc ↔ x ∈ acc ∨ ∃ p ∈ ps, x ∈ p.2) ∧ (ps.foldl (fun acc p => acc ++ p.2.filter fun x => !decide (x ∈ acc)) acc).length ≤ acc.length + (ps.flatMap fun p => p.2).length
  | [], acc => ⟨fun x => by simp, Nat.le_refl _⟩
  | p :: ps, acc => by
    obtain ⟨h1, h2⟩ := an_fold ps (acc ++ p.2.filter fun x => !decide (x ∈ acc))
    rw [List.foldl_cons]
    refine ⟨fun x => ?_, ?_⟩
    · rw [h1, List.mem_append, List.mem_filter]
      constructor
      · rintro ((h | h) | ⟨q, hq, h⟩)
        · exact .inl h
        · exact .inr ⟨p, List.mem_cons_self, h.1⟩
        · exact .inr ⟨q, List.mem_cons_of_mem _ hq, h⟩
      · rintro (h | ⟨q, hq, h⟩)
        · exact .inl (.inl h)
        · rcases List.mem_cons.mp hq with rfl | hq
          · by_cases e : x ∈ acc
            · exact .inl (.inl e)
            · exact .inl (.inr ⟨h, by rw [decide_eq_false e]; rfl⟩)
          · exact .inr ⟨q, hq, h⟩
    · have := List.length_filter_le (fun x => !decide (x ∈ acc)) p.2
      rw [List.length_append] at h2
      rw [List.flatMap_cons, List.length_append]
      omega
theorem an_mem {ps : List (Bool × List Str)} {x : Str} : x ∈ anL ps ↔ ∃ p ∈ ps, x ∈ p.2 := by
  unfold anL
  rw [(an_fold ps []).1]
  simp
theorem an_len (ps : List (Bool × List Str)) : (anL ps).length ≤ (ps.flatMap fun p => p.2).length := by
  have := (an_fold ps []).2
  rwa [List.length_nil, Nat.zero_add] at this
theorem an_snoc (ps : List (Bool × List Str)) (p : Bool × List Str) : anL (ps ++ [p]) = anL ps ++ p.2.filter fun x => !decide (x ∈ anL ps) := by
  unfold anL
  rw [List.foldl_append]
  rfl

/-! ### pairs as keys -/
def p2K (p : P2) : NestedKey := .tup [nmK p.1, nmK p.2]
def p2D (p : P2) : D := .tup [.tup (nmD p.1), .tup (nmD p.2)]
theorem p2K_inj {p q : P2} (h : p2K p = p2K q) : p = q := by
  unfold p2K at h
  injection h with h
  injection h with h1 h
  injection h with h2 _
  exact Prod.ext (nm_inj h1) (nm_inj h2)
theorem p2K_D (p : P2) : nkD (p2K p) = p2D p := by
  unfold p2K p2D
  rw [nkD, nkDs, nkDs, nkDs, nkD_nm, nkD_nm]
theorem p2K_dep (p : P2) : (p2K p).depth ≤ 8 := by
  unfold p2K
  rw [NestedKey.depth, NestedKey.depthAll, NestedKey.depthAll, NestedKey.depthAll, dep_nm, dep_nm]
  decide
def ksD (ks : List P2) : List (NestedKey × D) := ks.map fun k => (p2K k, D.bl true)
theorem ksD_has {ks : List P2} {k : P2} : hasT (ksD ks) (p2K k) = decide (k ∈ ks) := by
  rw [Bool.eq_iff_iff, decide_eq_true_eq]
  unfold hasT ksD
  rw [List.any_eq_true]
  constructor
  · rintro ⟨p, hp, e⟩
    obtain ⟨q, hq, rfl⟩ := List.mem_map.mp hp
    rw [decide_eq_true_eq] at e
    rw [← p2K_inj e]
    exact hq
  · intro h
    exact ⟨_, List.mem_map.mpr ⟨k, h, rfl⟩, decide_eq_true rfl⟩
theorem ksD_put {ks : List P2} {k : P2} (h : k ∉ ks) : putT (ksD ks) (p2K k) (D.bl true) = ksD (ks ++ [k]) := by
  unfold putT
  rw [ksD_has, if_neg (by simpa using h)]
  unfold ksD
  rw [List.map_append]
  rfl

theorem isSome_has {κ α : Type} [DecidableEq κ] {kvs : List (κ × α)} {k : κ} : (getT kvs k).isSome = hasT kvs k := by
  unfold getT hasT
  rw [Option.isSome_map, Bool.eq_iff_iff, List.find?_isSome, List.any_eq_true]

/-! ### numbers as texts -/
def rStrI : List V → Hp → VK → Prop := fun xs H Q => ∃ i : Int, xs = [.int i] ∧ i.natAbs.log2 < 1920 ∧ Q (.str (toString i)) H
theorem call_strI {X : Cx} : CallR X (.type "str") rStrI := call_str_int
theorem ev_strI {K : PySem.W.Frag} {ro : Ro} {ka k1 : Cells} {te : TE} {i : Int} (h : EvD K te ro ka (.val (.int i)) k1) (hi : i.natAbs.log2 < 1920) : EvD K (tCB rStrI (tCons te tNil)) ro ka (.val (.str (toString i))) k1 := ev_cb (ea1 h) fun B F0 ro ta sg H us Q e hl hm q => by
  obtain ⟨u, rfl, hu⟩ := zip_one hl hm
  have := e.tm_int hu
  subst this
  exact ⟨i, rfl, hi, q _ _ (e.push_imm fun _ => rfl)⟩
def aNum (n : Nat) : Str := ("a" : Str) ++ (Str.ofString (toString ((n : Nat) : Int)))
theorem aNum_inj {i j : Nat} (hi : i < 1000000) (hj : j < 1000000) (h : aNum i = aNum j) : i = j := by
  have h2 := congrArg TL.tl h
  unfold aNum at h2
  rw [TL.tl_append, TL.tl_append] at h2
  have h3 : Str.ofString (toString ((i : Nat) : Int)) = Str.ofString (toString ((j : Nat) : Int)) := TL.ext_tl (List.append_cancel_left h2)
  have r1 := PySem.W.KIN.num_reads (n := (i : Int)) (by omega) (by omega)
  have r2 := PySem.W.KIN.num_reads (n := (j : Int)) (by omega) (by omega)
  rw [h3, r2] at r1
  have := Option.some.inj r1
  omega
theorem num_few {i : Nat} (hi : i < 1000000) : (Str.ofString (toString ((i : Nat) : Int))).length ≤ 6 := PyProof.Rows.toString_length_le (by omega) (by decide) (by omega)
theorem log_few {i : Nat} (hi : i < 1000000) : ((i : Nat) : Int).natAbs.log2 < 1920 := by
  have : ((i : Nat) : Int).natAbs = i := rfl
  rw [this]
  by_cases h : i = 0
  · subst h
    decide
  · exact Nat.lt_trans ((Nat.log2_lt (k := 20) h).mpr (Nat.lt_of_lt_of_le hi (by decide))) (by decide)
/-- as many numbers as names: one makes no name of them -/
theorem aNum_free {N : List Str} {n : Nat} (hn : n ≤ 1000000) (h : ∀ j, j < n → aNum j ∈ N) : n ≤ N.length := by
  have nd : ((List.range n).map aNum).Nodup := by
    rw [List.nodup_iff_pairwise_ne, List.pairwise_map]
    refine List.Pairwise.imp_of_mem (fun {a b} ha hb ne e => ne (aNum_inj ?_ ?_ e)) (List.nodup_iff_pairwise_ne.mp List.nodup_range)
    · have := List.mem_range.mp ha; omega
    · have := List.mem_range.mp hb; omega
  have := nd_sub (ys := N) nd fun x hx => by
    obtain ⟨j, hj, rfl⟩ := List.mem_map.mp hx
    exact h j (List.mem_range.mp hj)
  rwa [List.length_map, List.length_range] at this
end DL

/-! FP: what machines of like trees make of words; how many pairs there are; how many ends (own work). -/
namespace DL
open PySem L2 PySem.W

section
variable {m n : Mc}
end
theorem run_rep2 (a : Tr) (w : List Str) : runM (mcT (.rep (.rep a)) 0) w = runM (mcT (.rep a) 0) w := by
  have af : ∀ ps x, afterM (mcT (.rep (.rep a)) 0) ps x = afterM (mcT (.rep a) 0) ps x := fun ps x => by
    refine List.filter_congr fun b _ => ?_
    have : behM (mcT (.rep (.rep a)) 0) ps b = behM (mcT (.rep a) 0) ps b := by
      unfold behM
      rw [Bool.eq_iff_iff, List.any_eq_true, List.any_eq_true]
      constructor
      · rintro ⟨p, hp, h⟩
        refine ⟨p, hp, decide_eq_true ?_⟩
        rcases List.mem_append.mp (of_decide_eq_true h) with h | h
        · exact h
        · exact List.mem_append_right _ h
      · rintro ⟨p, hp, h⟩
        exact ⟨p, hp, decide_eq_true (List.mem_append_left _ (of_decide_eq_true h))⟩
    rw [this]
    rfl
  have fold : ∀ (r : List Str) (ps : List Nat), r.foldl (afterM (mcT (.rep (.rep a)) 0)) ps = r.foldl (afterM (mcT (.rep a) 0)) ps := fun r => by
    induction r with
    | nil => exact fun _ => rfl
    | cons x r ih => exact fun ps => by rw [List.foldl_cons, List.foldl_cons, af, ih]
  cases w with
  | nil => rfl
  | cons x r => exact fold r _

/-! ### how many pairs there are -/
/-- all that two machines make of words stands in a row of c pairs -/
def PrOk (t u : Tr) (c : Nat) : Prop := ∃ PA : List P2, PA.length ≤ c ∧ ∀ w, w ≠ [] → st2 (mcT t 0) (mcT u 0) w ∈ PA
theorem PrOk.up {t u : Tr} {c d : Nat} (h : PrOk t u c) (hd : c ≤ d) : PrOk t u d := by
  obtain ⟨PA, h1, h2⟩ := h
  exact ⟨PA, by omega, h2⟩
theorem PrOk.all (t u : Tr) : PrOk t u (2 ^ t.ats * 2 ^ u.ats) := ⟨p2All (mcT t 0) (mcT u 0), by rw [p2All_len, mc_at_len, mc_at_len]; exact Nat.le_refl _, fun w h => st2_all t u h⟩
theorem PrOk.swap {t u : Tr} {c : Nat} (h : PrOk t u c) : PrOk u t c := by
  obtain ⟨PA, h1, h2⟩ := h
  exact ⟨PA.map fun p => (p.2, p.1), by rw [List.length_map]; exact h1, fun w hw => List.mem_map.mpr ⟨_, h2 w hw, rfl⟩⟩
/-- what the second makes is told by what others make -/
theorem PrOk.by {t u v : Tr} {c : Nat} (h : PrOk t v c) (f : P2 → List Nat) (hf : ∀ w, runM (mcT u 0) w = f (st2 (mcT t 0) (mcT v 0) w)) : PrOk t u c := by
  obtain ⟨PA, h1, h2⟩ := h
  exact ⟨PA.map fun p => (p.1, f p), by rw [List.length_map]; exact h1, fun w hw => List.mem_map.mpr ⟨_, h2 w hw, by unfold st2; rw [hf]; rfl⟩⟩
theorem PrOk.same (t : Tr) : PrOk t t (2 ^ t.ats) := by
  refine ⟨(subs (List.range (mcT t 0).at_.length)).map fun a => (a, a), by rw [List.length_map, subs_len, List.length_range, mc_at_len]; exact Nat.le_refl _, fun w hw => List.mem_map.mpr ⟨runM (mcT t 0) w, ?_, rfl⟩⟩
  have := st2_all t t hw
  obtain ⟨a, ha, h⟩ := List.mem_flatMap.mp this
  obtain ⟨b, hb, e⟩ := List.mem_map.mp h
  rw [← show a = runM (mcT t 0) w from congrArg Prod.fst e]
  exact ha
theorem PrOk.opt (t : Tr) : PrOk t (.opt t) (2 ^ t.ats) := (PrOk.same t).by (fun p => p.2) fun w => rfl
theorem PrOk.rep (t : Tr) : PrOk (.rep t) (.rep (.rep t)) (2 ^ t.ats) := (PrOk.same (.rep t)).by (fun p => p.2) fun w => run_rep2 t w
/-! ### how many ends there are -/
def EB (n : Nat) : Tr → Nat
  | .at _ _ => 1
  | .either a b => EB n a + EB n b
  | .opt a => EB n a + 1
  | .join a b => (n + 1) * EB n b
  | .rep a => n + 1
/-- the rows stay short -/
def EbOk (n : Nat) : Tr → Prop
  | .at _ _ => True
  | .either a b => EbOk n a ∧ EbOk n b ∧ EB n a + EB n b ≤ 90000
  | .opt a => EbOk n a ∧ EB n a + 1 ≤ 90000
  | .join a b => EbOk n a ∧ EbOk n b ∧ EB n a ≤ 50000 ∧ (n + 1) * EB n b ≤ 90000
  | .rep a => EbOk n a ∧ EB n a ≤ 90000
theorem EB_dep {n : Nat} (hn : 1 ≤ n) : ∀ {t : Tr}, (t.dep = 0 → EB n t ≤ 1) ∧ (t.dep ≤ 1 → EB n t ≤ n + 1) ∧ (t.dep ≤ 2 → EB n t ≤ (n + 1) * (n + 1))
  | .at kd ns => ⟨fun _ => Nat.le_refl _, fun _ => by show 1 ≤ _; omega, fun _ => by show 1 ≤ _; exact Nat.mul_pos (by omega) (by omega)⟩
  | .rep a => by
    refine ⟨fun h => (by cases h), fun h => Nat.le_refl _, fun h => ?_⟩
    show n + 1 ≤ (n + 1) * (n + 1)
    exact Nat.le_mul_of_pos_right _ (by omega)
  | .opt a => by
    obtain ⟨h0, h1, h2⟩ := EB_dep hn (t := a)
    refine ⟨fun h => (by cases h), fun h => ?_, fun h => ?_⟩
    · have := h0 (by have : a.dep + 1 ≤ 1 := h; omega)
      show EB n a + 1 ≤ _
      omega
    · have := h1 (by have : a.dep + 1 ≤ 2 := h; omega)
      show EB n a + 1 ≤ (n + 1) * (n + 1)
      have e : (n + 1) * (n + 1) = n * (n + 1) + (n + 1) := Nat.succ_mul n (n + 1)
      have : 1 ≤ n * (n + 1) := Nat.mul_pos (by omega) (by omega)
      omega
  | .either a b => by
    obtain ⟨h0, h1, h2⟩ := EB_dep hn (t := a)
    obtain ⟨g0, g1, g2⟩ := EB_dep hn (t := b)
    refine ⟨fun h => (by cases h), fun h => ?_, fun h => ?_⟩
    · have h : max a.dep b.dep + 1 ≤ 1 := h
      have := h0 (by omega)
      have := g0 (by omega)
      show EB n a + EB n b ≤ _
      omega
    · have h : max a.dep b.dep + 1 ≤ 2 := h
      have := h1 (by omega)
      have := g1 (by omega)
      show EB n a + EB n b ≤ (n + 1) * (n + 1)
      have e : (n + 1) * (n + 1) = n * (n + 1) + (n + 1) := Nat.succ_mul n (n + 1)
      have : 1 * (n + 1) ≤ n * (n + 1) := Nat.mul_le_mul_right _ hn
      omega
  | .join a b => by
    obtain ⟨h0, h1, h2⟩ := EB_dep hn (t := a)
    obtain ⟨g0, g1, g2⟩ := EB_dep hn (t := b)
    refine ⟨fun h => (by cases h), fun h => ?_, fun h => ?_⟩
    · have h : max a.dep b.dep + 1 ≤ 1 := h
      have := g0 (by omega)
      show (n + 1) * EB n b ≤ n + 1
      calc (n + 1) * EB n b ≤ (n + 1) * 1 := Nat.mul_le_mul_left _ this
        _ = n + 1 := Nat.mul_one _
    · have h : max a.dep b.dep + 1 ≤ 2 := h
      have := g1 (by omega)
      exact Nat.mul_le_mul_left _ this
theorem sq_le {n : Nat} (h : n ≤ 256) : (n + 1) * (n + 1) ≤ 66049 := Nat.le_trans (Nat.mul_le_mul (show n + 1 ≤ 257 by omega) (show n + 1 ≤ 257 by omega)) (by decide)
/-- trees of at most two nested operators -/
theorem EbOk.dep {n : Nat} (h1 : 1 ≤ n) (hn : n ≤ 256) : ∀ {t : Tr}, t.dep ≤ 2 → EbOk n t
  | .at kd ns, _ => trivial
  | .rep a, h => by
    have h : a.dep + 1 ≤ 2 := h
    have := (EB_dep h1 (t := a)).2.1 (by omega)
    exact ⟨EbOk.dep h1 hn (by omega), by omega⟩
  | .opt a, h => by
    have h : a.dep + 1 ≤ 2 := h
    have := (EB_dep h1 (t := a)).2.1 (by omega)
    exact ⟨EbOk.dep h1 hn (by omega), by omega⟩
  | .either a b, h => by
    have h : max a.dep b.dep + 1 ≤ 2 := h
    have := (EB_dep h1 (t := a)).2.1 (by omega)
    have := (EB_dep h1 (t := b)).2.1 (by omega)
    exact ⟨EbOk.dep h1 hn (by omega), EbOk.dep h1 hn (by omega), by omega⟩
  | .join a b, h => by
    have h : max a.dep b.dep + 1 ≤ 2 := h
    have h3 := (EB_dep h1 (t := a)).2.1 (by omega)
    have h4 := (EB_dep h1 (t := b)).2.1 (by omega)
    have := sq_le hn
    exact ⟨EbOk.dep h1 hn (by omega), EbOk.dep h1 hn (by omega), by omega, Nat.le_trans (Nat.mul_le_mul_left _ h4) (by omega)⟩
theorem EB_mono {n m : Nat} (h : n ≤ m) : ∀ t : Tr, EB n t ≤ EB m t
  | .at _ _ => Nat.le_refl _
  | .either a b => Nat.add_le_add (EB_mono h a) (EB_mono h b)
  | .opt a => Nat.succ_le_succ (EB_mono h a)
  | .join a b => Nat.mul_le_mul (Nat.succ_le_succ h) (EB_mono h b)
  | .rep a => Nat.succ_le_succ h
theorem EbOk.mono {n m : Nat} (h : n ≤ m) : ∀ {t : Tr}, EbOk m t → EbOk n t
  | .at _ _, _ => trivial
  | .either a b, ⟨h1, h2, h3⟩ => ⟨h1.mono h, h2.mono h, Nat.le_trans (Nat.add_le_add (EB_mono h a) (EB_mono h b)) h3⟩
  | .opt a, ⟨h1, h3⟩ => ⟨h1.mono h, Nat.le_trans (Nat.succ_le_succ (EB_mono h a)) h3⟩
  | .join a b, ⟨h1, h2, h3, h4⟩ => ⟨h1.mono h, h2.mono h, Nat.le_trans (EB_mono h a) h3, Nat.le_trans (Nat.mul_le_mul (Nat.succ_le_succ h) (EB_mono h b)) h4⟩
  | .rep a, ⟨h1, h3⟩ => ⟨h1.mono h, Nat.le_trans (EB_mono h a) h3⟩

/-! ### drawn trees -/
theorem nice_at : ∀ {t : Tr} {s : Nat}, niceT t → ∀ p ∈ (mcT t s).at_, p.2.length ≤ 3
  | .at k ns, s, h, p, hp => by
    rw [List.mem_singleton.mp hp]
    exact h.1
  | .join a b, s, h, p, hp => by
    rcases List.mem_append.mp (show p ∈ (mcT a s).at_ ++ (mcT b (s + (mcT a s).at_.length)).at_ from hp) with hp | hp
    · exact nice_at h.1 p hp
    · exact nice_at h.2 p hp
  | .either a b, s, h, p, hp => by
    rcases List.mem_append.mp (show p ∈ (mcT a s).at_ ++ (mcT b (s + (mcT a s).at_.length)).at_ from hp) with hp | hp
    · exact nice_at h.1 p hp
    · exact nice_at h.2 p hp
  | .rep a, s, h, p, hp => nice_at (t := a) h p hp
  | .opt a, s, h, p, hp => nice_at (t := a) h p hp
theorem flat_le {ps : List (Bool × List Str)} {c : Nat} (h : ∀ p ∈ ps, p.2.length ≤ c) : (ps.flatMap fun p => p.2).length ≤ ps.length * c := by
  induction ps with
  | nil => exact Nat.zero_le _
  | cons p ps ih =>
    have h1 := h p List.mem_cons_self
    have h2 := ih fun q hq => h q (List.mem_cons_of_mem _ hq)
    rw [List.flatMap_cons, List.length_append, List.length_cons, Nat.add_mul, Nat.one_mul]
    omega
/-- a second tree beside a first one, as the law draws it -/
structure SecT (t u : Tr) : Prop where
  nt : niceT t
  nu : niceT u
  dt : t.dep ≤ 3
  du : u.dep ≤ 3
  at1 : t.ats ≤ 8
  at2 : u.ats ≤ 8
  pr : PrOk t u 256
  e1 : EbOk 256 t
  e2 : EbOk 256 u
theorem SecT.swap {t u : Tr} (h : SecT t u) : SecT u t := ⟨h.nu, h.nt, h.du, h.dt, h.at2, h.at1, h.pr.swap, h.e2, h.e1⟩
section
variable {t : Tr} (nt : niceT t) (dt : t.dep ≤ 2)
include nt dt
end
theorem wdT_nice {x : Str} {xs : List Str} (h : ∀ n ∈ x :: xs, isNm n = true) : niceT (wdT x xs) := by
  induction xs using list_snoc_ind with
  | nil => exact ⟨Nat.le_of_ble_eq_true rfl, fun _ => List.cons_ne_nil _ _, fun n hn => h n hn⟩
  | snoc ys y ih =>
    rw [wdT_snoc]
    exact ⟨ih fun n hn => h n (by
      rcases List.mem_cons.mp hn with rfl | hn
      · exact List.mem_cons_self
      · exact List.mem_cons_of_mem _ (List.mem_append_left _ hn)), Nat.le_of_ble_eq_true rfl, fun _ => List.cons_ne_nil _ _, fun n hn => h n (by
      rw [List.mem_singleton.mp hn]
      exact List.mem_cons_of_mem _ (List.mem_append_right _ (List.mem_singleton.mpr rfl)))⟩
end DL

/-! FQ: {y: [] for y in ..} and {(y, ()): [] for y in ..} with nested keys, over lists, tuples and dicts; the library's DictComp_goesN with the hand layer's state at each turn (own work). -/
namespace DL
open PySem L2 PySem.W PyProof.Rows

/-- where the things come from -/
inductive DcOver (K : PySem.W.Frag) (H : Hp) (w : World) (l : Addr) (xs : List V) : Prop where
  | lst (h : SqL K H l xs)
  | tup (h : SqT K H l xs)
  | nest (rs : List (NestedKey × Addr × V)) (h : NAt K H w l rs) (e : xs = rs.map fun r => .ref r.2.1)
section
variable {X : Cx}
end
end DL

/-! FR: rules by data: {y: [] ..} with nested keys, list.pop, frozen dicts of lists with nested keys, dicts keyed by numbers (own work). -/
namespace DL
open PySem L2 PySem.W PyProof.Rows

section
variable {wd : World} {K : PySem.W.Frag} {B F F0 : Hp} {ro : Ro} {ka k1 k2 : Cells} {ta : List (V × W)} {sg : L2.St} {H : Hp} {te : TE} {w0 : W}
end

section
variable {wd : World} {K : PySem.W.Frag} {B F F0 : Hp} {ro : Ro} {ka k1 k2 k3 : Cells} {ta : List (V × W)} {sg : L2.St} {H : Hp} {te td ty tk tv tf : TE} {tt : TT} {tr : TA} {w x y : W} {a C : Addr} {b : Bool} {De : Ends} {u : TS} {E : XK} {P : W → Cells → Prop} {ds : List (Key × D)} {c : Key} {d : D} {n : Nd}
/-! ### an own object called -/
theorem Fn.fr {Pg : Program} {mg : Str → Option Value} {base : Heap} {k : Nat} {f : Addr} {ps : List Str} {Cc : Ct} (F : Fn Pg wd K mg base k f ps Cc) : FnR Pg wd K mg base (L2.CX Pg wd) k f (spC K Cc) := by
  obtain ⟨fd, F, hb⟩ := F
  exact (F.raw hb .nil).imp fun vs H Q E h => by rw [List.append_nil]; exact h
/-! ### frozen: a dict of nested keys with what stands behind -/
def FzN (K : PySem.W.Frag) (kt : Cells) : List (NestedKey × D) → List (NestedKey × D) → Prop
  | [], es => es = []
  | (k, d) :: ds, es => ∃ e r, es = (k, e) :: r ∧ FzR K kt d e ∧ FzN K kt ds r
theorem FzN.rp {kt : Cells} (nz : Nz F) (t : Thw K F H kt) : ∀ {ds es : List (NestedKey × D)} {xs : List (NestedKey × Addr × V)}, FzN K kt ds es → RpN K F ds xs → RpN K (thF F H kt) es xs
  | [], es, xs, z, h => by
    obtain rfl : es = [] := z
    exact h
  | (k, d) :: ds, es, xs, ⟨e, r, e1, z1, z2⟩, ⟨bb, x, ys, e2, h0, h1, h2⟩ => by
    subst e1
    exact ⟨bb, x, ys, e2, ⟨RkN.mono (thF_sub t.no).exz nz _ _ h0.1, h0.2⟩, z1.rp nz t h1, FzN.rp nz t z2 h2⟩
def FzK (K : PySem.W.Frag) (kt : Cells) : List (Key × D) → List (Key × D) → Prop
  | [], es => es = []
  | (k, d) :: ds, es => ∃ e r, es = (k, e) :: r ∧ FzR K kt d e ∧ FzK K kt ds r
theorem FzK.rp {kt : Cells} (nz : Nz F) (t : Thw K F H kt) : ∀ {ds es : List (Key × D)} {xs : List (Key × V)}, FzK K kt ds es → RpK K F ds xs → RpK K (thF F H kt) es xs
  | [], es, xs, z, h => by
    obtain rfl : es = [] := z
    exact h
  | (k, d) :: ds, es, xs, ⟨e, r, e1, z1, z2⟩, ⟨x, ys, e2, h1, h2⟩ => by
    subst e1
    exact ⟨x, ys, e2, z1.rp nz t h1, FzK.rp nz t z2 h2⟩
end
end DL

/-! FS: walks through all things, deepest first; lots of things that lead to one another, numbered; in plain Lean (own work). -/
namespace DL
section
variable {α : Type} [DecidableEq α]
/-- in n steps from x to y -/
inductive LdN (adj : α → List α) : Nat → α → α → Prop where
  | nil (x : α) : LdN adj 0 x x
  | cons {n : Nat} {x y z : α} (h : y ∈ adj x) (t : LdN adj n y z) : LdN adj (n + 1) x z
def Ld (adj : α → List α) (x y : α) : Prop := ∃ n, LdN adj n x y
variable {adj : α → List α}
theorem Ld.refl (x : α) : Ld adj x x := ⟨0, .nil x⟩
theorem Ld.step {x y : α} (h : y ∈ adj x) : Ld adj x y := ⟨1, .cons h (.nil y)⟩
theorem LdN.app {n m : Nat} {x y z : α} (h : LdN adj n x y) (t : LdN adj m y z) : ∃ k, LdN adj k x z := by
  induction h with
  | nil x => exact ⟨_, t⟩
  | cons h _ ih =>
    obtain ⟨k, hk⟩ := ih t
    exact ⟨_, .cons h hk⟩
theorem Ld.trans {x y z : α} (h : Ld adj x y) (t : Ld adj y z) : Ld adj x z := h.elim fun _ h => t.elim fun _ t => h.app t
theorem Ld.tail {x y z : α} (h : Ld adj x y) (t : z ∈ adj y) : Ld adj x z := h.trans (.step t)
theorem LdN.in_ {n : Nat} {x y : α} {V : List α} (h : LdN adj n x y) (cl : ∀ x ∈ V, ∀ y ∈ adj x, y ∈ V) (hx : x ∈ V) : y ∈ V := by
  induction h with
  | nil x => exact hx
  | cons h _ ih => exact ih (cl _ hx _ h)
/-- out of a set, there is a step -/
theorem LdN.cross {S : α → Prop} : ∀ {n : Nat} {x r : α}, LdN adj n x r → S x → ¬ S r → ∃ a b m, S a ∧ b ∈ adj a ∧ ¬ S b ∧ m < n ∧ LdN adj m b r ∧ Ld adj x b := by
  intro n
  induction n with
  | zero =>
    intro x r h hx hr
    cases h
    exact absurd hx hr
  | succ n ih =>
    intro x r h hx hr
    cases h with
    | @cons _ _ y _ hy t =>
      by_cases sy : S y
      · obtain ⟨a, b, m, h1, h2, h3, h4, h5, h6⟩ := ih t sy hr
        exact ⟨a, b, m, h1, h2, h3, by omega, h5, (Ld.step hy).trans h6⟩
      · exact ⟨x, y, n, hx, hy, sy, Nat.lt_succ_self _, t, .step hy⟩

/-! ### the order in which things are left -/
/-- all that is left by a moment leads to what is left by then, or to what leads to the one left then -/
def FinO (adj : α → List α) (order : List α) : Prop := ∀ (p : Nat) (x : α), order[p]? = some x → ∀ a ∈ order.take (p + 1), ∀ b ∈ adj a, b ∈ order.take (p + 1) ∨ Ld adj b x
/-- the last one left of all that are reached leads back -/
theorem FinO.back {order : List α} (F : FinO adj order) (nd : order.Nodup) (cl : ∀ x ∈ order, ∀ y ∈ adj x, y ∈ order) : ∀ (n : Nat) {x r : α}, x ∈ order → LdN adj n x r → (∀ z, Ld adj x z → order.idxOf z ≤ order.idxOf r) → Ld adj r x := by
  intro n
  induction n using Nat.strongRecOn with
  | _ n ih =>
    intro x r hx h mx
    have hr : r ∈ order := h.in_ cl hx
    have hp := List.idxOf_lt_length_of_mem hx
    have at_ : order[order.idxOf x]? = some x := by rw [List.getElem?_eq_getElem hp]; exact congrArg some (List.getElem_idxOf hp)
    have tk : ∀ {z : α}, z ∈ order.take (order.idxOf x + 1) ↔ z ∈ order ∧ order.idxOf z ≤ order.idxOf x := fun {z} => by
      constructor
      · intro hz
        have hz2 := List.mem_of_mem_take hz
        refine ⟨hz2, ?_⟩
        obtain ⟨i, hi⟩ := List.getElem?_of_mem hz
        rw [List.getElem?_take] at hi
        split at hi
        · rename_i lt
          have hl := (List.getElem?_eq_some_iff.mp hi).1
          have e := (List.getElem?_eq_some_iff.mp hi).2
          have : order.idxOf z = i := by
            have q := List.getElem_idxOf (List.idxOf_lt_length_of_mem hz2)
            exact (List.getElem_inj nd).mp (q.trans e.symm)
          omega
        · cases hi
      · rintro ⟨hz, hle⟩
        have hl := List.idxOf_lt_length_of_mem hz
        refine List.mem_of_getElem? (i := order.idxOf z) ?_
        rw [List.getElem?_take, if_pos (by omega), List.getElem?_eq_getElem hl]
        exact congrArg some (List.getElem_idxOf hl)
    by_cases hrt : r ∈ order.take (order.idxOf x + 1)
    · have h1 := (tk.mp hrt).2
      have h2 := mx x (Ld.refl x)
      have e : order.idxOf r = order.idxOf x := by omega
      have : r = x := by
        have q1 := List.getElem_idxOf (List.idxOf_lt_length_of_mem hr)
        have q2 := List.getElem_idxOf hp
        simp only [e] at q1
        exact q1.symm.trans q2
      rw [this]
      exact Ld.refl x
    · obtain ⟨a, b, m, h1, h2, h3, h4, h5, h6⟩ := h.cross (S := fun z => z ∈ order.take (order.idxOf x + 1)) (tk.mpr ⟨hx, Nat.le_refl _⟩) hrt
      have hb : b ∈ order := cl _ (List.mem_of_mem_take h1) _ h2
      rcases F _ x at_ a h1 b h2 with z | z
      · exact absurd z h3
      · exact (ih m h4 hb h5 fun z hz => mx z (h6.trans hz)).trans z
/-- on the way: what is left, what is known, what is open (the next place of each) -/
structure DfI (adj : α → List α) (V order known : List α) (stack : List (α × Nat)) : Prop where
  kn : ∀ x, x ∈ known ↔ x ∈ order ∨ x ∈ stack.map (·.1)
  nd : (order ++ stack.map (·.1)).Nodup
  kd : known.Nodup
  inV : ∀ x ∈ known, x ∈ V
  fin : ∀ a ∈ order, ∀ b ∈ adj a, b ∈ known
  F : FinO adj order
  ch : ∀ (pre post : List (α × Nat)) (s t : α × Nat), stack = pre ++ s :: t :: post → t.1 ∈ adj s.1
  pl : ∀ s ∈ stack, s.2 ≤ (adj s.1).length ∧ ∀ j b, j < s.2 → (adj s.1)[j]? = some b → b ∈ known
section
variable {V order known : List α} {stack : List (α × Nat)}
theorem list_nil_or_snoc {β : Type} (xs : List β) : xs = [] ∨ ∃ ys y, xs = ys ++ [y] := by
  by_cases h : xs = []
  · exact .inl h
  · exact .inr ⟨xs.dropLast, xs.getLast h, (List.dropLast_concat_getLast h).symm⟩
theorem snoc_split {β : Type} {xs pre post : List β} {x s t : β} (h : xs ++ [x] = pre ++ s :: t :: post) : (∃ post', xs = pre ++ s :: t :: post') ∨ (xs = pre ++ [s] ∧ x = t) := by
  rcases list_nil_or_snoc post with rfl | ⟨post', y, rfl⟩
  · right
    have h2 : xs ++ [x] = (pre ++ [s]) ++ [t] := by rw [h, List.append_assoc]; rfl
    exact ⟨List.append_inj_left' h2 rfl, by have := List.append_inj_right' h2 rfl; exact List.cons.inj this |>.1⟩
  · left
    have h2 : xs ++ [x] = (pre ++ s :: t :: post') ++ [y] := by rw [h, List.append_assoc]; rfl
    exact ⟨post', List.append_inj_left' h2 rfl⟩
/-- the top's next one is known -/
theorem DfI.old {st : List (α × Nat)} {s : α} {i : Nat} {b : α} (I : DfI adj V order known (st ++ [(s, i)])) (hb : (adj s)[i]? = some b) (hk : b ∈ known) : DfI adj V order known (st ++ [(s, i + 1)]) where
  kn := fun x => by
    have := I.kn x
    rw [List.map_append] at this ⊢
    exact this
  nd := by
    have := I.nd
    rw [List.map_append] at this ⊢
    exact this
  kd := I.kd
  inV := I.inV
  fin := I.fin
  F := I.F
  ch := fun pre post u t h => by
    rcases snoc_split h with ⟨post', h'⟩ | ⟨h1, h2⟩
    · exact I.ch pre (post' ++ [(s, i)]) u t (by rw [h', List.append_assoc]; rfl)
    · have := I.ch pre [] u (s, i) (by rw [h1, List.append_assoc]; rfl)
      rw [← h2]
      exact this
  pl := fun u hu => by
    rcases List.mem_append.mp hu with hu | hu
    · exact I.pl u (List.mem_append_left _ hu)
    · rw [List.mem_singleton.mp hu]
      have h0 := I.pl (s, i) (List.mem_append_right _ (List.mem_singleton.mpr rfl))
      refine ⟨(List.getElem?_eq_some_iff.mp hb).1, fun j c hj hc => ?_⟩
      rcases Nat.lt_or_ge j i with g | g
      · exact h0.2 j c g hc
      · have : j = i := by
          have hj : j < i + 1 := hj
          omega
        subst this
        have hc : (adj s)[j]? = some c := hc
        rw [hb] at hc
        cases hc
        exact hk
/-- the top's next one is new -/
theorem DfI.new {st : List (α × Nat)} {s : α} {i : Nat} {b : α} (I : DfI adj V order known (st ++ [(s, i)])) (hb : (adj s)[i]? = some b) (hk : b ∉ known) (hV : b ∈ V) : DfI adj V order (known ++ [b]) (st ++ [(s, i + 1)] ++ [(b, 0)]) where
  kn := fun x => by
    have := I.kn x
    rw [List.mem_append, this]
    simp only [List.map_append, List.map_cons, List.map_nil, List.mem_append, List.mem_singleton]
    constructor
    · rintro ((h | h | h) | h)
      · exact .inl h
      · exact .inr (.inl (.inl h))
      · exact .inr (.inl (.inr h))
      · exact .inr (.inr h)
    · rintro (h | (h | h) | h)
      · exact .inl (.inl h)
      · exact .inl (.inr (.inl h))
      · exact .inl (.inr (.inr h))
      · exact .inr h
  nd := by
    have h := I.nd
    rw [List.map_append] at h
    rw [List.map_append, List.map_append, ← List.append_assoc, List.nodup_append]
    refine ⟨h, by simp, fun x hx y hy => ?_⟩
    have hy : y = b := by simpa using hy
    rintro rfl
    refine hk (hy ▸ (I.kn x).mpr ?_)
    rw [List.map_append]
    exact List.mem_append.mp hx
  kd := by
    rw [List.nodup_append]
    exact ⟨I.kd, by simp, fun a ha b' hb' => by
      rw [List.mem_singleton] at hb'
      rintro rfl
      exact hk (hb' ▸ ha)⟩
  inV := fun x hx => (List.mem_append.mp hx).elim (I.inV x) fun h => by rw [List.mem_singleton.mp h]; exact hV
  fin := fun a ha c hc => List.mem_append_left _ (I.fin a ha c hc)
  F := I.F
  ch := fun pre post u t h => by
    rcases snoc_split h with ⟨post', h'⟩ | ⟨h1, h2⟩
    · rcases snoc_split h' with ⟨post2, h2⟩ | ⟨h3, h4⟩
      · exact I.ch pre (post2 ++ [(s, i)]) u t (by rw [h2, List.append_assoc]; rfl)
      · have := I.ch pre [] u (s, i) (by rw [h3, List.append_assoc]; rfl)
        rw [← h4]
        exact this
    · have e : u = (s, i + 1) := by
        have := List.append_inj_right' h1 rfl
        exact (List.cons.inj this).1.symm
      rw [e, ← h2]
      exact List.mem_of_getElem? hb
  pl := fun u hu => by
    have up : ∀ {u : α × Nat}, (u.2 ≤ (adj u.1).length ∧ ∀ j c, j < u.2 → (adj u.1)[j]? = some c → c ∈ known) → u.2 ≤ (adj u.1).length ∧ ∀ j c, j < u.2 → (adj u.1)[j]? = some c → c ∈ known ++ [b] := fun h => ⟨h.1, fun j c hj hc => List.mem_append_left _ (h.2 j c hj hc)⟩
    rcases List.mem_append.mp hu with hu | hu
    · rcases List.mem_append.mp hu with hu | hu
      · exact up (I.pl u (List.mem_append_left _ hu))
      · rw [List.mem_singleton.mp hu]
        have h0 := I.pl (s, i) (List.mem_append_right _ (List.mem_singleton.mpr rfl))
        refine ⟨(List.getElem?_eq_some_iff.mp hb).1, fun j c hj hc => ?_⟩
        rcases Nat.lt_or_ge j i with g | g
        · exact List.mem_append_left _ (h0.2 j c g hc)
        · have : j = i := by
            have hj : j < i + 1 := hj
            omega
          subst this
          have hc : (adj s)[j]? = some c := hc
          rw [hb] at hc
          cases hc
          exact List.mem_append_right _ (List.mem_singleton.mpr rfl)
    · rw [List.mem_singleton.mp hu]
      exact ⟨Nat.zero_le _, fun j c h => absurd h (Nat.not_lt_zero _)⟩
/-- what is open leads to the top -/
theorem DfI.chain {st : List (α × Nat)} {s : α} {i : Nat} (I : DfI adj V order known (st ++ [(s, i)])) : ∀ u ∈ st ++ [(s, i)], Ld adj u.1 s := by
  have key : ∀ (k : Nat) (pre post : List (α × Nat)), post.length = k → st ++ [(s, i)] = pre ++ post → ∀ u ∈ post, Ld adj u.1 s := by
    intro k
    induction k with
    | zero =>
      intro pre post hl _ u hu
      rw [List.eq_nil_of_length_eq_zero hl] at hu
      cases hu
    | succ k ih =>
      intro pre post hl e u hu
      cases post with
      | nil => cases hl
      | cons v post =>
        have e2 : st ++ [(s, i)] = (pre ++ [v]) ++ post := by rw [e, List.append_assoc]; rfl
        have rest := ih (pre ++ [v]) post (by simpa using hl) e2
        rcases List.mem_cons.mp hu with rfl | hu
        · cases post with
          | nil =>
            rw [List.append_nil] at e2
            have := List.append_inj_right' e2 rfl
            rw [← (List.cons.inj this).1]
            exact Ld.refl s
          | cons t post => exact (Ld.step (I.ch pre post u t e)).trans (rest t List.mem_cons_self)
        · exact rest u hu
  exact key _ [] _ rfl rfl
/-- the top is left -/
theorem DfI.leave {st : List (α × Nat)} {s : α} {i : Nat} (I : DfI adj V order known (st ++ [(s, i)])) (hi : (adj s).length ≤ i) : DfI adj V (order ++ [s]) known st := by
  have h0 := I.pl (s, i) (List.mem_append_right _ (List.mem_singleton.mpr rfl))
  have sk : ∀ b ∈ adj s, b ∈ known := fun b hb => by
    obtain ⟨j, hj⟩ := List.getElem?_of_mem hb
    exact h0.2 j b (Nat.lt_of_lt_of_le (List.getElem?_eq_some_iff.mp hj).1 hi) hj
  have fin' : ∀ a ∈ order ++ [s], ∀ b ∈ adj a, b ∈ known := fun a ha b hb => by
    rcases List.mem_append.mp ha with ha | ha
    · exact I.fin a ha b hb
    · rw [List.mem_singleton.mp ha] at hb
      exact sk b hb
  have kn' : ∀ x, x ∈ known ↔ x ∈ order ++ [s] ∨ x ∈ st.map (·.1) := fun x => by
    rw [I.kn x, List.map_append, List.map_cons, List.map_nil, List.mem_append, List.mem_append]
    constructor
    · rintro (h | h | h)
      · exact .inl (.inl h)
      · exact .inr h
      · exact .inl (.inr h)
    · rintro ((h | h) | h)
      · exact .inl h
      · exact .inr (.inr h)
      · exact .inr (.inl h)
  refine ⟨kn', ?_, I.kd, I.inV, fin', fun p x hx a ha b hb => ?_, fun pre post u t h => ?_, fun u hu => I.pl u (List.mem_append_left _ hu)⟩
  · have h := I.nd
    rw [List.map_append, List.map_cons, List.map_nil] at h
    refine (List.Perm.nodup_iff ?_).mp h
    rw [List.append_assoc]
    exact List.Perm.append_left _ List.perm_append_comm
  · by_cases hp : p < order.length
    · rw [List.getElem?_append_left hp] at hx
      rw [List.take_append_of_le_length hp] at ha ⊢
      exact I.F p x hx a ha b hb
    · have hl := (List.getElem?_eq_some_iff.mp hx).1
      rw [List.length_append, List.length_singleton] at hl
      have e : p = order.length := by omega
      subst e
      rw [List.getElem?_append_right (Nat.le_refl _), Nat.sub_self] at hx
      cases hx
      have et : (order ++ [s]).take (order.length + 1) = order ++ [s] := List.take_of_length_le (by rw [List.length_append]; exact Nat.le_refl _)
      rw [et] at ha ⊢
      rcases (kn' b).mp (fin' a ha b hb) with h | h
      · exact .inl h
      · obtain ⟨u, hu, rfl⟩ := List.mem_map.mp h
        exact .inr (I.chain u (List.mem_append_left _ hu))
  · exact I.ch pre (post ++ [(s, i)]) u t (by rw [h, List.append_assoc]; rfl)
/-- what is still to be done, where nothing leads on more than D times -/
def DfM (adj : α → List α) (V known : List α) (D : Nat) (stack : List (α × Nat)) : Nat := (V.length - known.length) * (D + 2) + (stack.map fun s => (adj s.1).length + 1 - s.2).sum
theorem sum_snoc (xs : List Nat) (x : Nat) : (xs ++ [x]).sum = xs.sum + x := by simp
theorem DfM.old {st : List (α × Nat)} {s : α} {i D : Nat} (h : i < (adj s).length) : DfM adj V known D (st ++ [(s, i + 1)]) < DfM adj V known D (st ++ [(s, i)]) := by
  unfold DfM
  rw [List.map_append, List.map_append, List.map_cons, List.map_nil, List.map_cons, List.map_nil, sum_snoc, sum_snoc]
  show _ + (_ + ((adj s).length + 1 - (i + 1))) < _ + (_ + ((adj s).length + 1 - i))
  omega
theorem DfM.leave {st : List (α × Nat)} {s : α} {i D : Nat} (h : i ≤ (adj s).length) : DfM adj V known D st < DfM adj V known D (st ++ [(s, i)]) := by
  unfold DfM
  rw [List.map_append, List.map_cons, List.map_nil, sum_snoc]
  show _ < _ + (_ + ((adj s).length + 1 - i))
  omega
theorem DfM.new {st : List (α × Nat)} {s b : α} {i D : Nat} (I : DfI adj V order known (st ++ [(s, i)])) (hk : b ∉ known) (hV : b ∈ V) (hD : (adj b).length ≤ D) (h : i < (adj s).length) : DfM adj V (known ++ [b]) D (st ++ [(s, i + 1)] ++ [(b, 0)]) < DfM adj V known D (st ++ [(s, i)]) := by
  unfold DfM
  have hl : (known ++ [b]).length ≤ V.length := nd_sub (by
    rw [List.nodup_append]
    exact ⟨I.kd, by simp, fun a ha b' hb' => by
      rw [List.mem_singleton] at hb'
      rintro rfl
      exact hk (hb' ▸ ha)⟩) fun x hx => (List.mem_append.mp hx).elim (I.inV x) fun h => by rw [List.mem_singleton.mp h]; exact hV
  rw [List.length_append, List.length_singleton] at hl ⊢
  rw [List.map_append, List.map_append, List.map_append, List.map_cons, List.map_nil, List.map_cons, List.map_nil, List.map_cons, List.map_nil, sum_snoc, sum_snoc, sum_snoc]
  show _ + (_ + ((adj s).length + 1 - (i + 1)) + ((adj b).length + 1 - 0)) < _ + (_ + ((adj s).length + 1 - i))
  have e : V.length - known.length = (V.length - (known.length + 1)) + 1 := by omega
  rw [e, Nat.add_mul, Nat.one_mul]
  omega
end

/-! ### lots of things that lead to one another -/
/-- all things of V numbered: the same number, and they lead to one another; no step leads to a lesser number -/
structure LotO (adj : α → List α) (V : List α) (nm : List (α × Nat)) : Prop where
  nd : (nm.map (·.1)).Nodup
  all : ∀ x, x ∈ V ↔ x ∈ nm.map (·.1)
  same : ∀ x y i, (x, i) ∈ nm → (y, i) ∈ nm → Ld adj x y
  up : ∀ x y i j, y ∈ adj x → (x, i) ∈ nm → (y, j) ∈ nm → i ≤ j
/-- between two first ones: n numbers are taken -/
structure LotI (adj : α → List α) (V done : List α) (n : Nat) (nm : List (α × Nat)) : Prop where
  nd : (nm.map (·.1)).Nodup
  inV : ∀ x ∈ nm.map (·.1), x ∈ V
  dn : ∀ x ∈ done, x ∈ nm.map (·.1)
  lt : ∀ p ∈ nm, p.2 < n
  pre : ∀ x ∈ V, ∀ y ∈ adj x, y ∈ nm.map (·.1) → x ∈ nm.map (·.1)
  same : ∀ x y i, (x, i) ∈ nm → (y, i) ∈ nm → Ld adj x y
  up : ∀ x y i j, y ∈ adj x → (x, i) ∈ nm → (y, j) ∈ nm → i ≤ j
/-- while a lot is gathered from r on: mm those of the lot, q those whose sources are still to be seen, S the sources seen of the one at hand -/
structure LotG (adj : α → List α) (V : List α) (r : α) (nm : List (α × Nat)) (mm q : List α) (c : Option α) (S : List α) : Prop where
  nd : (nm.map (·.1) ++ mm).Nodup
  inV : ∀ x ∈ mm, x ∈ V
  rm : r ∈ mm
  to : ∀ x ∈ mm, Ld adj x r
  qm : ∀ x ∈ q, x ∈ mm
  cm : ∀ x, c = some x → x ∈ mm
  pre : ∀ y ∈ mm, y ∉ q → c ≠ some y → ∀ x ∈ V, y ∈ adj x → x ∈ nm.map (·.1) ++ mm
  cS : ∀ y x, c = some y → x ∈ S → x ∈ nm.map (·.1) ++ mm
section
variable {V done mm q : List α} {nm : List (α × Nat)} {n : Nat} {r y : α} {S : List α}
theorem LotI.first (I : LotI adj V done n nm) (hr : r ∉ nm.map (·.1)) (hV : r ∈ V) : LotG adj V r nm [r] [r] none [] where
  nd := by
    rw [List.nodup_append]
    exact ⟨I.nd, by simp, fun a ha b hb => by
      rw [List.mem_singleton] at hb
      rintro rfl
      exact hr (hb ▸ ha)⟩
  inV := fun x hx => by rw [List.mem_singleton.mp hx]; exact hV
  rm := List.mem_singleton.mpr rfl
  to := fun x hx => by rw [List.mem_singleton.mp hx]; exact Ld.refl r
  qm := fun x hx => hx
  cm := fun x h => nomatch h
  pre := fun y hy hq => absurd hy hq
  cS := fun y x h => nomatch h
/-- the last of the queue is taken up -/
theorem LotG.take (G : LotG adj V r nm mm (q ++ [y]) none []) : LotG adj V r nm mm q (some y) [] where
  nd := G.nd
  inV := G.inV
  rm := G.rm
  to := G.to
  qm := fun x hx => G.qm x (List.mem_append_left _ hx)
  cm := fun x h => by
    cases h
    exact G.qm y (List.mem_append_right _ (List.mem_singleton.mpr rfl))
  pre := fun z hz hq hc => G.pre z hz (fun h => by
    rcases List.mem_append.mp h with h | h
    · exact hq h
    · exact hc (by rw [List.mem_singleton.mp h])) (fun h => nomatch h)
  cS := fun z x _ h => nomatch h
/-- a source that has a number -/
theorem LotG.old {x : α} (G : LotG adj V r nm mm q (some y) S) (hx : x ∈ nm.map (·.1) ++ mm) : LotG adj V r nm mm q (some y) (S ++ [x]) := { G with
  cS := fun z u h hu => by
    rcases List.mem_append.mp hu with hu | hu
    · exact G.cS z u h hu
    · rw [List.mem_singleton.mp hu]
      exact hx }
/-- a source without one -/
theorem LotG.new {x : α} (G : LotG adj V r nm mm q (some y) S) (hx : x ∉ nm.map (·.1) ++ mm) (hV : x ∈ V) (hy : y ∈ adj x) : LotG adj V r nm (mm ++ [x]) (q ++ [x]) (some y) (S ++ [x]) where
  nd := by
    rw [← List.append_assoc, List.nodup_append]
    exact ⟨G.nd, by simp, fun a ha b hb => by
      rw [List.mem_singleton] at hb
      rintro rfl
      exact hx (hb ▸ ha)⟩
  inV := fun z hz => (List.mem_append.mp hz).elim (G.inV z) fun h => by rw [List.mem_singleton.mp h]; exact hV
  rm := List.mem_append_left _ G.rm
  to := fun z hz => (List.mem_append.mp hz).elim (G.to z) fun h => by
    rw [List.mem_singleton.mp h]
    exact (Ld.step hy).trans (G.to y (G.cm y rfl))
  qm := fun z hz => (List.mem_append.mp hz).elim (fun h => List.mem_append_left _ (G.qm z h)) fun h => List.mem_append_right _ h
  cm := fun z h => List.mem_append_left _ (G.cm z h)
  pre := fun z hz hq hc u hu he => by
    rcases List.mem_append.mp hz with hz | hz
    · have := G.pre z hz (fun h => hq (List.mem_append_left _ h)) hc u hu he
      rw [← List.append_assoc]
      exact List.mem_append_left _ this
    · exact absurd (List.mem_append_right _ hz) hq
  cS := fun z u h hu => by
    rw [← List.append_assoc]
    rcases List.mem_append.mp hu with hu | hu
    · exact List.mem_append_left _ (G.cS z u h hu)
    · exact List.mem_append_right _ hu
/-- one that has a number already -/
theorem LotI.skip (I : LotI adj V done n nm) (hr : r ∈ nm.map (·.1)) : LotI adj V (done ++ [r]) n nm := { I with
  dn := fun x hx => (List.mem_append.mp hx).elim (I.dn x) fun h => by rw [List.mem_singleton.mp h]; exact hr }
/-- two that lead to one another have the same number -/
theorem LotO.eq (O : LotO adj V nm) (cl : ∀ x ∈ V, ∀ y ∈ adj x, y ∈ V) {x y : α} {i j : Nat} (hx : (x, i) ∈ nm) (hy : (y, j) ∈ nm) (h1 : Ld adj x y) (h2 : Ld adj y x) : i = j := by
  have mono : ∀ (k : Nat) (x y : α), LdN adj k x y → ∀ i j, (x, i) ∈ nm → (y, j) ∈ nm → i ≤ j := fun k x y h => by
    induction h with
    | nil x =>
      intro i j hi hj
      have : i = j := by
        have h1 := O.nd
        obtain ⟨a, ha⟩ := List.getElem?_of_mem hi
        obtain ⟨b, hb⟩ := List.getElem?_of_mem hj
        have e1 : (nm.map (·.1))[a]? = some x := by rw [List.getElem?_map, ha]; rfl
        have e2 : (nm.map (·.1))[b]? = some x := by rw [List.getElem?_map, hb]; rfl
        have := (List.getElem?_inj (List.getElem?_eq_some_iff.mp e1).1 h1).mp (e1.trans e2.symm)
        subst this
        rw [ha] at hb
        exact (Prod.mk.inj (Option.some.inj hb)).2
      omega
    | @cons n x y z h t ih =>
      intro i j hi hj
      have yV : y ∈ V := cl x ((O.all x).mpr (List.mem_map.mpr ⟨_, hi, rfl⟩)) y h
      obtain ⟨p, hp, e⟩ := List.mem_map.mp ((O.all y).mp yV)
      have hp' : (y, p.2) ∈ nm := by rw [← e]; exact hp
      have := O.up x y i p.2 h hi hp'
      have := ih p.2 j hp' hj
      omega
  obtain ⟨a, h1⟩ := h1
  obtain ⟨b, h2⟩ := h2
  have := mono a x y h1 i j hx hy
  have := mono b y x h2 j i hy hx
  omega
end
end
end DL

/-! FT: standings (a post, open atoms), moves between them, as they are gathered (own work). -/
namespace DL
open PySem L2 PySem.W PyProof.Rows

abbrev L3 := Str × Str × Str
abbrev Sd := Str × List Nat
/-- the moves of a standing -/
def sdSc (es : List L3) (m : Mc) (s : Sd) : List (Str × Sd) := (es.filter fun r => decide (r.2.1 = s.1) && !doneM m (begM m s.2 r.1)).map fun r => (r.1, (r.2.2, begM m s.2 r.1))
abbrev sdA (es : List L3) (m : Mc) (s : Sd) : List Sd := (sdSc es m s).map (·.2)
abbrev Mv := List (Sd × List (Str × Sd))
/-! ### gathering moves -/
structure MIn (es : List L3) (m : Mc) (ps : List Str) (n : Nat) (E : List (Str × Sd)) (qs : List Sd) (cs : List (List (Str × Sd))) : Prop where
  nd : qs.Nodup
  ini : ∀ p ∈ ps, (p, []) ∈ qs
  ln : cs.length = qs.length
  dn : ∀ (i : Nat) c, i < n → qs[i]? = some c → cs[i]? = some (sdSc es m c)
  at_ : ∀ c, qs[n]? = some c → cs[n]? = some E
  af : ∀ i, n < i → i < qs.length → cs[i]? = some []
  cl : ∀ l ∈ cs, ∀ e ∈ l, e.2 ∈ qs
  rc : ∀ s ∈ qs, ∃ p ∈ ps, Ld (sdA es m) (p, []) s
structure MvOk (es : List L3) (m : Mc) (ps : List Str) (mv : Mv) : Prop where
  nd : (mv.map (·.1)).Nodup
  ini : ∀ p ∈ ps, (p, []) ∈ mv.map (·.1)
  sc : ∀ x ∈ mv, x.2 = sdSc es m x.1
  cl : ∀ s ∈ mv.map (·.1), ∀ t ∈ sdA es m s, t ∈ mv.map (·.1)
  rc : ∀ s ∈ mv.map (·.1), ∃ p ∈ ps, Ld (sdA es m) (p, []) s
section
variable {es : List L3} {m : Mc} {ps : List Str} {n : Nat} {E : List (Str × Sd)} {qs : List Sd} {cs : List (List (Str × Sd))}
theorem MIn.old (I : MIn es m ps n E qs cs) {c : Sd} (hc : qs[n]? = some c) {e : Str × Sd} (h : e.2 ∈ qs) : MIn es m ps n (E ++ [e]) qs (cs.set n (E ++ [e])) where
  nd := I.nd
  ini := I.ini
  ln := by rw [List.length_set]; exact I.ln
  dn := fun i d hi hd => by
    rw [List.getElem?_set_ne (by omega)]
    exact I.dn i d hi hd
  at_ := fun d hd => by
    rw [List.getElem?_set_self (by rw [I.ln]; exact (List.getElem?_eq_some_iff.mp hc).1)]
  af := fun i hi hl => by
    rw [List.getElem?_set_ne (by omega)]
    exact I.af i hi hl
  cl := fun l hl f hf => by
    rcases List.mem_or_eq_of_mem_set hl with hl | rfl
    · exact I.cl l hl f hf
    · rcases List.mem_append.mp hf with hf | hf
      · exact I.cl E (List.mem_of_getElem? (I.at_ c hc)) f hf
      · rw [List.mem_singleton.mp hf]
        exact h
  rc := I.rc
theorem MIn.new (I : MIn es m ps n E qs cs) {c : Sd} (hc : qs[n]? = some c) {e : Str × Sd} (he : e.2 ∈ sdA es m c) (h : e.2 ∉ qs) : MIn es m ps n (E ++ [e]) (qs ++ [e.2]) (cs.set n (E ++ [e]) ++ [[]]) where
  nd := by
    rw [List.nodup_append]
    exact ⟨I.nd, by simp, fun a ha b hb => by
      rw [List.mem_singleton] at hb
      rintro rfl
      exact h (hb ▸ ha)⟩
  ini := fun p hp => List.mem_append_left _ (I.ini p hp)
  ln := by rw [List.length_append, List.length_set, List.length_append, I.ln]; rfl
  dn := fun i d hi hd => by
    have hl := (List.getElem?_eq_some_iff.mp hc).1
    rw [List.getElem?_append_left (by omega)] at hd
    rw [List.getElem?_append_left (by rw [List.length_set, I.ln]; omega), List.getElem?_set_ne (by omega)]
    exact I.dn i d hi hd
  at_ := fun d _ => by
    have hl := (List.getElem?_eq_some_iff.mp hc).1
    rw [List.getElem?_append_left (by rw [List.length_set, I.ln]; omega), List.getElem?_set_self (by rw [I.ln]; exact hl)]
  af := fun i hi hl => by
    rw [List.length_append, List.length_singleton] at hl
    by_cases g : i < qs.length
    · rw [List.getElem?_append_left (by rw [List.length_set, I.ln]; omega), List.getElem?_set_ne (by omega)]
      exact I.af i hi g
    · have : i = qs.length := by omega
      subst this
      rw [List.getElem?_append_right (by rw [List.length_set, I.ln]; exact Nat.le_refl _), List.length_set, I.ln, Nat.sub_self]
      rfl
  cl := fun l hl f hf => by
    rcases List.mem_append.mp hl with hl | hl
    · rcases List.mem_or_eq_of_mem_set hl with hl | rfl
      · exact List.mem_append_left _ (I.cl l hl f hf)
      · rcases List.mem_append.mp hf with hf | hf
        · exact List.mem_append_left _ (I.cl E (List.mem_of_getElem? (I.at_ c hc)) f hf)
        · rw [List.mem_singleton.mp hf]
          exact List.mem_append_right _ (List.mem_singleton.mpr rfl)
    · rw [List.mem_singleton.mp hl] at hf
      cases hf
  rc := fun s hs => by
    rcases List.mem_append.mp hs with hs | hs
    · exact I.rc s hs
    · rw [List.mem_singleton.mp hs]
      obtain ⟨p, hp, h⟩ := I.rc c (List.mem_of_getElem? hc)
      exact ⟨p, hp, h.tail he⟩
theorem MIn.next (I : MIn es m ps n E qs cs) (hE : ∀ c, qs[n]? = some c → E = sdSc es m c) : MIn es m ps (n + 1) [] qs cs where
  nd := I.nd
  ini := I.ini
  ln := I.ln
  dn := fun i d hi hd => by
    rcases Nat.lt_or_ge i n with g | g
    · exact I.dn i d g hd
    · have : i = n := by omega
      subst this
      rw [I.at_ d hd, hE d hd]
  at_ := fun d hd => I.af (n + 1) (Nat.lt_succ_self _) (List.getElem?_eq_some_iff.mp hd).1
  af := fun i hi hl => I.af i (by omega) hl
  cl := I.cl
  rc := I.rc
/-- standings met out of a row: no more than it has -/
theorem MIn.few (I : MIn es m ps n E qs cs) {N : List Sd} (h0 : ∀ p ∈ ps, (p, []) ∈ N) (hN : ∀ x ∈ N, ∀ y ∈ sdA es m x, y ∈ N) : qs.length ≤ N.length := nd_sub I.nd fun x hx => by
  obtain ⟨p, hp, k, hk⟩ := I.rc x hx
  exact hk.in_ hN (h0 p hp)
end
end DL

/-! FU: rows by standings and their lists, as data and as cells; what leads to each standing (own work). -/
namespace DL
open PySem L2 PySem.W PyProof.Rows

/-- where a standing leads -/
def mvA (mv : Mv) (s : Sd) : List Sd := match mv.find? fun x => decide (x.1 = s) with
  | some x => x.2.map (·.2)
  | none => []
theorem mvA_at {mv : Mv} (hn : (mv.map (·.1)).Nodup) {x : Sd × List (Str × Sd)} (h : x ∈ mv) : mvA mv x.1 = x.2.map (·.2) := by
  unfold mvA
  have : mv.find? (fun y => decide (y.1 = x.1)) = some x := by
    induction mv with
    | nil => cases h
    | cons y mv ih =>
      have hn2 := List.nodup_cons.mp (by rw [List.map_cons] at hn; exact hn)
      rw [List.find?_cons]
      rcases List.mem_cons.mp h with rfl | h
      · rw [decide_eq_true rfl]
      · have : ¬ y.1 = x.1 := fun e => hn2.1 (e ▸ List.mem_map.mpr ⟨x, h, rfl⟩)
        rw [decide_eq_false this]
        exact ih hn2.2 h
  rw [this]
theorem mvA_mem {mv : Mv} {s t : Sd} (h : t ∈ mvA mv s) : ∃ x ∈ mv, x.1 = s ∧ t ∈ x.2.map (·.2) := by
  unfold mvA at h
  cases e : mv.find? (fun x => decide (x.1 = s)) with
  | none => rw [e] at h; cases h
  | some x =>
    rw [e] at h
    exact ⟨x, List.mem_of_find?_eq_some e, by simpa using List.find?_some e, h⟩
/-- all moves without their lanes -/
def edR (mv : Mv) : List (Sd × Sd) := mv.flatMap fun x => x.2.map fun e => (x.1, e.2)
/-- moves that a walk may go through: told once each, none leads out, not too many -/
structure MvW (mv : Mv) : Prop where
  nd : (mv.map (·.1)).Nodup
  cl : ∀ x ∈ mv, ∀ e ∈ x.2, e.2 ∈ mv.map (·.1)
  few : (edR mv).length ≤ 90000
  mn : mv.length ≤ 40000
  rw : ∀ x ∈ mv, x.2.length ≤ 1000
theorem MvW.to {mv : Mv} (W : MvW mv) {s t : Sd} (h : t ∈ mvA mv s) : t ∈ mv.map (·.1) := by
  obtain ⟨x, hx, _, q⟩ := mvA_mem h
  obtain ⟨e, he, rfl⟩ := List.mem_map.mp q
  exact W.cl x hx e he
theorem DfI.few {adj : Sd → List Sd} {V order known : List Sd} {stack : List (Sd × Nat)} (I : DfI adj V order known stack) : order.length + stack.length ≤ V.length ∧ known.length ≤ V.length := by
  have h1 := nd_sub I.nd (ys := V) fun x hx => I.inV x ((I.kn x).mpr (List.mem_append.mp hx))
  rw [List.length_append, List.length_map] at h1
  exact ⟨h1, nd_sub I.kd fun x hx => I.inV x hx⟩
section
variable {wd : World} {K : PySem.W.Frag} {ro : Ro} {ka : Cells} {te : TE} {P R : W → Cells → Prop}
end
end DL

/-! FV: lanes on moves between standings of one number, dicts of dicts (own work). -/
namespace DL
open PySem L2 PySem.W PyProof.Rows

def edL (mv : Mv) : List (Sd × Str × Sd) := mv.flatMap fun x => x.2.map fun e => (x.1, e.1, e.2)
theorem edL_mem {mv : Mv} {s t : Sd} {l : Str} : (s, l, t) ∈ edL mv ↔ ∃ x ∈ mv, x.1 = s ∧ (l, t) ∈ x.2 := by
  unfold edL
  rw [List.mem_flatMap]
  constructor
  · rintro ⟨x, hx, h⟩
    obtain ⟨e, he, q⟩ := List.mem_map.mp h
    cases q
    exact ⟨x, hx, rfl, he⟩
  · rintro ⟨x, hx, rfl, h⟩
    exact ⟨x, hx, List.mem_map.mpr ⟨_, h, rfl⟩⟩
/-- the lanes on moves within a number -/
def ilL (nm : List (Sd × Nat)) (E : List (Sd × Str × Sd)) (n : Nat) : List Str := (E.filter fun e => decide ((e.1, n) ∈ nm) && decide ((e.2.2, n) ∈ nm)).map (·.2.1)
theorem ilL_in {nm : List (Sd × Nat)} {E : List (Sd × Str × Sd)} {n : Nat} {e : Sd × Str × Sd} (h1 : (e.1, n) ∈ nm) (h2 : (e.2.2, n) ∈ nm) : ilL nm (E ++ [e]) n = ilL nm E n ++ [e.2.1] := by
  unfold ilL
  rw [List.filter_append, List.map_append, List.filter_cons, decide_eq_true h1, decide_eq_true h2]
  rfl
theorem ilL_out {nm : List (Sd × Nat)} {E : List (Sd × Str × Sd)} {n : Nat} {e : Sd × Str × Sd} (h : ¬ ((e.1, n) ∈ nm ∧ (e.2.2, n) ∈ nm)) : ilL nm (E ++ [e]) n = ilL nm E n := by
  unfold ilL
  rw [List.filter_append, List.map_append, List.filter_cons]
  have : (decide ((e.1, n) ∈ nm) && decide ((e.2.2, n) ∈ nm)) = false := by
    rw [← Bool.not_eq_true, Bool.and_eq_true, decide_eq_true_eq, decide_eq_true_eq]
    exact h
  rw [this]
  exact List.append_nil _
theorem ilL_mem {nm : List (Sd × Nat)} {E : List (Sd × Str × Sd)} {n : Nat} {l : Str} : l ∈ ilL nm E n ↔ ∃ s t, (s, l, t) ∈ E ∧ (s, n) ∈ nm ∧ (t, n) ∈ nm := by
  unfold ilL
  rw [List.mem_map]
  constructor
  · rintro ⟨⟨s, l', t⟩, h, rfl⟩
    obtain ⟨h1, h2⟩ := List.mem_filter.mp h
    rw [Bool.and_eq_true, decide_eq_true_eq, decide_eq_true_eq] at h2
    exact ⟨s, t, h1, h2⟩
  · rintro ⟨s, t, h, h1, h2⟩
    exact ⟨(s, l, t), List.mem_filter.mpr ⟨h, by rw [decide_eq_true h1, decide_eq_true h2]; rfl⟩, rfl⟩
/-- two numbers of one standing are the same -/
theorem num_one {nm : List (Sd × Nat)} (hn : (nm.map (·.1)).Nodup) {s : Sd} {i j : Nat} (h1 : (s, i) ∈ nm) (h2 : (s, j) ∈ nm) : i = j := by
  induction nm with
  | nil => cases h1
  | cons x nm ih =>
    have hn2 := List.nodup_cons.mp (by rw [List.map_cons] at hn; exact hn)
    rcases List.mem_cons.mp h1 with e1 | h1 <;> rcases List.mem_cons.mp h2 with e2 | h2
    · rw [← e1] at e2
      exact (Prod.mk.inj e2).2.symm
    · exact absurd (List.mem_map.mpr ⟨_, h2, by rw [← e1]⟩) hn2.1
    · exact absurd (List.mem_map.mpr ⟨_, h1, by rw [← e2]⟩) hn2.1
    · exact ih hn2.2 h1 h2
/-! ### dicts behind numbers -/
/-- each number: its dict's place among those made -/
def ilR (as : List Addr) (rows : List (Nat × Nat)) : List (Key × D) := rows.map fun r => (Sum.inl (r.1 : Int), D.adr (as[r.2]?.getD 0))
structure IlR (nm : List (Sd × Nat)) (len : Nat) (rows : List (Nat × Nat)) : Prop where
  n1 : (rows.map (·.1)).Nodup
  n2 : (rows.map (·.2)).Nodup
  lt : ∀ r ∈ rows, r.2 < len
  mem : ∀ n, n ∈ rows.map (·.1) ↔ n ∈ nm.map (·.2)
theorem int_inl {i j : Nat} (h : (Sum.inl (i : Int) : Key) = Sum.inl (j : Int)) : i = j := by
  injection h with h
  omega
theorem ilR_has {as : List Addr} {rows : List (Nat × Nat)} {n : Nat} : hasT (ilR as rows) (Sum.inl (n : Int)) = decide (n ∈ rows.map (·.1)) := by
  rw [Bool.eq_iff_iff, decide_eq_true_eq]
  unfold hasT ilR
  rw [List.any_map, List.any_eq_true]
  constructor
  · rintro ⟨r, hr, h⟩
    exact List.mem_map.mpr ⟨r, hr, int_inl (of_decide_eq_true h)⟩
  · intro h
    obtain ⟨r, hr, rfl⟩ := List.mem_map.mp h
    exact ⟨r, hr, decide_eq_true rfl⟩
theorem ilR_more {as : List Addr} {rows : List (Nat × Nat)} {a : Addr} (h : ∀ r ∈ rows, r.2 < as.length) : ilR (as ++ [a]) rows = ilR as rows := by
  unfold ilR
  refine List.map_congr_left fun r hr => ?_
  rw [List.getElem?_append_left (h r hr)]
theorem IlR.put {nm : List (Sd × Nat)} {i : Nat} {rows : List (Nat × Nat)} (I : IlR (nm.take i) i rows) {x : Sd × Nat} (h : nm[i]? = some x) {as : List Addr} (hl : as.length = i) (a : Addr) : ∃ rows', putT (ilR as rows) (Sum.inl (x.2 : Int)) (.adr a) = ilR (as ++ [a]) rows' ∧ IlR (nm.take (i + 1)) (i + 1) rows' := by
  have hlt : ∀ r ∈ rows, r.2 < as.length := fun r hr => by rw [hl]; exact I.lt r hr
  have hmem : ∀ n, n ∈ (nm.take (i + 1)).map (·.2) ↔ n ∈ (nm.take i).map (·.2) ∨ n = x.2 := fun n => by
    rw [take_succ_some h, List.map_append, List.mem_append]
    simp
  by_cases hx : x.2 ∈ rows.map (·.1)
  · refine ⟨rows.map fun r => if r.1 = x.2 then (r.1, i) else r, ?_, ?_, ?_, ?_, fun n => ?_⟩
    · unfold putT
      rw [ilR_has, if_pos (decide_eq_true hx)]
      unfold ilR
      rw [List.map_map, List.map_map]
      refine List.map_congr_left fun r hr => ?_
      simp only [Function.comp, newAt]
      by_cases e : r.1 = x.2
      · rw [if_pos (by rw [e]), if_pos e]
        simp only
        rw [List.getElem?_append_right (by omega), hl, Nat.sub_self]
        rfl
      · rw [if_neg (fun z => e (int_inl z)), if_neg e, List.getElem?_append_left (hlt r hr)]
    · rw [List.map_map, show ((fun x => x.1) ∘ fun r : Nat × Nat => if r.1 = x.2 then (r.1, i) else r) = fun r => r.1 from funext fun r => by simp only [Function.comp]; split <;> rfl]
      exact I.n1
    · have n1 := I.n1
      have n2 := I.n2
      have lt := I.lt
      clear hmem hlt hx I
      induction rows with
      | nil => exact List.nodup_nil
      | cons r rows ih =>
        rw [List.map_cons] at n1 n2
        have q1 := List.nodup_cons.mp n1
        have q2 := List.nodup_cons.mp n2
        rw [List.map_cons, List.map_cons, List.nodup_cons]
        refine ⟨fun hm => ?_, ih q1.2 q2.2 fun r hr => lt r (List.mem_cons_of_mem _ hr)⟩
        rw [List.map_map] at hm
        obtain ⟨r', h1, h2⟩ := List.mem_map.mp hm
        have l1 := lt r List.mem_cons_self
        have l2 := lt r' (List.mem_cons_of_mem _ h1)
        simp only [Function.comp] at h2
        by_cases e : r.1 = x.2 <;> by_cases e' : r'.1 = x.2
        · exact q1.1 (e.trans e'.symm ▸ List.mem_map.mpr ⟨r', h1, rfl⟩)
        · rw [if_pos e, if_neg e'] at h2
          simp only at h2
          omega
        · rw [if_neg e, if_pos e'] at h2
          simp only at h2
          omega
        · rw [if_neg e, if_neg e'] at h2
          exact q2.1 (h2 ▸ List.mem_map.mpr ⟨r', h1, rfl⟩)
    · intro r hr
      obtain ⟨r', h1, rfl⟩ := List.mem_map.mp hr
      have := I.lt r' h1
      split
      · exact Nat.lt_succ_self _
      · omega
    · rw [hmem, ← I.mem, List.map_map, show ((fun x => x.1) ∘ fun r : Nat × Nat => if r.1 = x.2 then (r.1, i) else r) = fun r => r.1 from funext fun r => by simp only [Function.comp]; split <;> rfl]
      exact ⟨.inl, fun h => h.elim id fun e => e ▸ hx⟩
  · refine ⟨rows ++ [(x.2, i)], ?_, ?_, ?_, ?_, fun n => ?_⟩
    · unfold putT
      rw [ilR_has, if_neg (by simpa using hx)]
      conv => lhs; rw [← ilR_more (a := a) hlt]
      unfold ilR
      rw [List.map_append, List.map_cons, List.map_nil]
      simp only
      rw [List.getElem?_append_right (by omega), hl, Nat.sub_self]
      rfl
    · rw [List.map_append, List.nodup_append]
      refine ⟨I.n1, by simp, fun u hu v hv => ?_⟩
      rw [List.map_cons, List.map_nil, List.mem_singleton] at hv
      have hv : v = x.2 := hv
      rintro rfl
      exact hx (hv ▸ hu)
    · rw [List.map_append, List.nodup_append]
      refine ⟨I.n2, by simp, fun u hu v hv => ?_⟩
      rw [List.map_cons, List.map_nil, List.mem_singleton] at hv
      obtain ⟨r, hr, rfl⟩ := List.mem_map.mp hu
      have := I.lt r hr
      omega
    · intro r hr
      rcases List.mem_append.mp hr with hr | hr
      · have := I.lt r hr
        omega
      · rw [List.mem_singleton.mp hr]
        exact Nat.lt_succ_self _
    · rw [hmem, ← I.mem, List.map_append, List.mem_append]
      simp
/-- what each number's dict holds behind some moves -/
structure IlS (nm : List (Sd × Nat)) (rows : List (Nat × Nat)) (len : Nat) (E : List (Sd × Str × Sd)) (ls : List (List Str)) : Prop where
  ln : ls.length = len
  at_ : ∀ r ∈ rows, ls[r.2]? = some (dedS (ilL nm E r.1))
theorem IlS.skip {nm : List (Sd × Nat)} {rows : List (Nat × Nat)} {len : Nat} {E : List (Sd × Str × Sd)} {ls : List (List Str)} (I : IlS nm rows len E ls) {e : Sd × Str × Sd} (h : ∀ n, ¬ ((e.1, n) ∈ nm ∧ (e.2.2, n) ∈ nm)) : IlS nm rows len (E ++ [e]) ls where
  ln := I.ln
  at_ := fun r hr => by rw [ilL_out (h r.1)]; exact I.at_ r hr
theorem IlS.more {nm : List (Sd × Nat)} {rows : List (Nat × Nat)} {len : Nat} {E : List (Sd × Str × Sd)} {ls : List (List Str)} (I : IlS nm rows len E ls) (hn : (nm.map (·.1)).Nodup) (n1 : (rows.map (·.1)).Nodup) (n2 : (rows.map (·.2)).Nodup) {e : Sd × Str × Sd} {r : Nat × Nat} (hr : r ∈ rows) (h1 : (e.1, r.1) ∈ nm) (h2 : (e.2.2, r.1) ∈ nm) : IlS nm rows len (E ++ [e]) (ls.set r.2 (dedS (ilL nm E r.1 ++ [e.2.1]))) where
  ln := by rw [List.length_set]; exact I.ln
  at_ := fun r' hr' => by
    have hl := (List.getElem?_eq_some_iff.mp (I.at_ r hr)).1
    by_cases e' : r'.1 = r.1
    · have : r' = r := nd_inj n1 hr' hr e'
      subst this
      rw [List.getElem?_set_self hl, ilL_in h1 h2]
    · have hne : r.2 ≠ r'.2 := fun z => e' (by rw [nd_inj n2 hr' hr z.symm])
      rw [List.getElem?_set_ne hne, ilL_out fun ⟨q1, _⟩ => e' (num_one hn q1 h1)]
      exact I.at_ r' hr'
where
  nd_inj {f : Nat × Nat → Nat} {rows : List (Nat × Nat)} (n : (rows.map f).Nodup) {a b : Nat × Nat} (ha : a ∈ rows) (hb : b ∈ rows) (h : f a = f b) : a = b := by
    induction rows with
    | nil => cases ha
    | cons x rows ih =>
      have q := List.nodup_cons.mp (by rw [List.map_cons] at n; exact n)
      rcases List.mem_cons.mp ha with e1 | h1 <;> rcases List.mem_cons.mp hb with e2 | h2
      · rw [e1, e2]
      · exact absurd (List.mem_map.mpr ⟨b, h2, by rw [← h, e1]⟩) q.1
      · exact absurd (List.mem_map.mpr ⟨a, h1, by rw [h, e2]⟩) q.1
      · exact ih q.2 h1 h2
end DL
namespace DL
open PySem L2 PySem.W PyProof.Rows
/-! ### a round along moves that takes all wanted lanes -/
def AvN (nm : List (Sd × Nat)) (E : List (Sd × Str × Sd)) (gs : List Str) (d : D) : Prop :=
  (d = .non ∧ ∀ n ∈ nm.map (·.2), ¬ ∀ g ∈ gs, g ∈ ilL nm E n) ∨ ∃ n : Nat, d = .int (n : Int) ∧ n ∈ nm.map (·.2) ∧ ∀ g ∈ gs, g ∈ ilL nm E n
/-- a standing from which each wanted lane can be taken, and back -/
def AvP (mv : Mv) (gs : List Str) : Prop := ∃ s ∈ mv.map (·.1), ∀ g ∈ gs, ∃ u v, (u, g, v) ∈ edL mv ∧ Ld (mvA mv) s u ∧ Ld (mvA mv) v s
open Classical in
noncomputable def avB (mv : Mv) (gs : List Str) : Bool := decide (AvP mv gs)
open Classical in
theorem avB_iff {mv : Mv} {gs : List Str} : avB mv gs = true ↔ AvP mv gs := decide_eq_true_iff
theorem MvW.lane {mv : Mv} (V : MvW mv) {u v : Sd} {g : Str} (h : (u, g, v) ∈ edL mv) : v ∈ mvA mv u ∧ u ∈ mv.map (·.1) := by
  obtain ⟨x, hx, rfl, he⟩ := edL_mem.mp h
  exact ⟨by rw [mvA_at V.nd hx]; exact List.mem_map.mpr ⟨_, he, rfl⟩, List.mem_map.mpr ⟨x, hx, rfl⟩⟩
theorem LotO.few {mv : Mv} {nm : List (Sd × Nat)} (O : LotO (mvA mv) (mv.map (·.1)) nm) : nm.length ≤ mv.length := by
  have := nd_sub O.nd (ys := mv.map (·.1)) fun x hx => (O.all x).mpr hx
  rw [List.length_map, List.length_map] at this
  exact this
theorem AvN.told {mv : Mv} {nm : List (Sd × Nat)} {gs : List Str} {d : D} (V : MvW mv) (O : LotO (mvA mv) (mv.map (·.1)) nm) (h : AvN nm (edL mv) gs d) : isNonD d = !avB mv gs := by
  have key : AvP mv gs ↔ ∃ n ∈ nm.map (·.2), ∀ g ∈ gs, g ∈ ilL nm (edL mv) n := by
    constructor
    · rintro ⟨s, hs, hg⟩
      obtain ⟨⟨s', n⟩, hsn, e⟩ := List.mem_map.mp ((O.all s).mp hs)
      simp only at e
      subst e
      refine ⟨n, List.mem_map.mpr ⟨_, hsn, rfl⟩, fun g hgm => ?_⟩
      obtain ⟨u, v, he, h1, h2⟩ := hg g hgm
      obtain ⟨hv, hu⟩ := V.lane he
      obtain ⟨⟨u', i⟩, hui, e⟩ := List.mem_map.mp ((O.all u).mp hu)
      simp only at e
      subst e
      obtain ⟨⟨v', j⟩, hvj, e⟩ := List.mem_map.mp ((O.all v).mp (V.to hv))
      simp only at e
      subst e
      have cl : ∀ x ∈ mv.map (·.1), ∀ y ∈ mvA mv x, y ∈ mv.map (·.1) := fun x _ y hy => V.to hy
      have e1 := O.eq cl hsn hui h1 ((Ld.step hv).trans h2)
      have e2 := O.eq cl hsn hvj (h1.tail hv) h2
      subst e1 e2
      exact ilL_mem.mpr ⟨_, _, he, hui, hvj⟩
    · rintro ⟨n, hn, hg⟩
      obtain ⟨⟨s, n'⟩, hsn, e⟩ := List.mem_map.mp hn
      simp only at e
      subst e
      refine ⟨s, (O.all s).mpr (List.mem_map.mpr ⟨_, hsn, rfl⟩), fun g hgm => ?_⟩
      obtain ⟨u, v, he, h1, h2⟩ := ilL_mem.mp (hg g hgm)
      exact ⟨u, v, he, O.same _ _ _ hsn h1, O.same _ _ _ h2 hsn⟩
  rcases h with ⟨rfl, h⟩ | ⟨n, rfl, h1, h2⟩
  · have : avB mv gs = false := by
      rw [← Bool.not_eq_true, avB_iff]
      intro hp
      obtain ⟨n, hn, hg⟩ := key.mp hp
      exact h n hn hg
    rw [this]
    rfl
  · rw [avB_iff.mpr (key.mpr ⟨n, h1, h2⟩)]
    rfl
section
variable {K : PySem.W.Frag} {ro : Ro} {ka k1 : Cells} {te : TE} {P : W → Cells → Prop} {bb : Bool}
end
end DL

/-! FW: an own object as a test (own work). -/
namespace DL
open PySem L2 PySem.Spec PyProof.Rows PySem.W
section
variable {X : Cx} {k : Nat} {C f : Addr} {ps : List Str} {E : XK} {Ct' : Ct} {e : Expr} {te : TE}
end
end DL

/-! FX: comprehensions over enumerated sequences of one kind; rows of numbers compared (own work). -/
namespace DL
open PySem L2 PySem.Spec PyProof.Rows PySem.W
section
variable {K : PySem.W.Frag} {ro : Ro} {ka k1 k2 k3 : Cells} {te tf : TE} {tt : TT} {j l : Nat} {x y w : W}
end
section
variable {X : Cx}
end
section
variable {K : PySem.W.Frag} {ro : Ro} {ka k1 k2 : Cells} {te tf : TE} {y : W}
end
section
variable {K : PySem.W.Frag} {ro : Ro} {ka k1 k2 : Cells} {te tf : TE} {y w : W}
end
/-! ### what is told of a locked dict's keys; a dict within a dict -/
section
variable {K : PySem.W.Frag} {ro : Ro} {ka : Cells} {te tg : TE} {tt : TT} {j : Nat} {vs : List Nat}
end
section
variable {K : PySem.W.Frag} {B F0 : Hp} {ro : Ro} {ka : Cells} {ta : List (V × W)} {td ty tv : TE} {De : Ends} {a : Addr} {wd : World} {ks : List NestedKey} {P : W → Cells → Prop}
end
section
variable {K : PySem.W.Frag} {ro : Ro} {ka k1 : Cells} {te : TE} {tt : TT} {j l : Nat} {vs : List Nat}
end
end DL

/-! FY: own errors with three fields (own work). -/
namespace DL
open PySem L2 PySem.Spec PyProof.Rows PySem.W
/-- __init__(self, x, y, z): self.f = x; self.g = y; self.h = z -/
def spI3 (K : PySem.W.Frag) (C : Addr) (f1 f2 f3 : Str) : Sp := fun vs H Q _ => ∃ a y1 y2 y3, vs = [.ref a, y1, y2, y3] ∧ OexC K C ∧ findIn K (.ref C) f1 = some none ∧ findIn K (.ref C) f2 = some none ∧ findIn K (.ref C) f3 = some none ∧ H a = some (exo a C none) ∧
  ∀ d, H d = none → d ≠ a → Q .non (upd (upd (upd (upd H d (exd d [(f1, y1)])) a (exo a C (some d))) d (exd d [(f2, y2), (f1, y1)])) d (exd d [(f3, y3), (f2, y2), (f1, y1)]))
section
variable {K : PySem.W.Frag} {B F F0 : Hp} {ro : Ro} {ka k1 : Cells} {ta : List (V × W)} {sg : L2.St} {H H' : Hp} {tr : TA} {C : Addr} {f1 f2 f3 : Str} {d1 d2 d3 : D} {De : Ends}
end
/-- an own error with three fields -/
structure X3 (P : Program) (w : World) (K : PySem.W.Frag) (mg : Str → Option Value) (base : Heap) (C : Addr) (f1 f2 f3 : Str) : Prop where
  xc : Xc K C
  n1 : findIn K (.ref C) f1 = some none
  n2 : findIn K (.ref C) f2 = some none
  n3 : findIn K (.ref C) f3 = some none
  ex : ∃ fI fd x y z, findIn K (.ref C) "__init__" = some (some (.ref fI)) ∧ typeIn K (.ref fI) = some (.type "function") ∧ FnOk P w K mg base (L2.CX P w) 1 fI fd ["self", x, y, z] (spI3 K C f1 f2 f3) ∧ Binds K fd ["self", x, y, z] []
namespace X3
variable {P : Program} {w : World} {K : PySem.W.Frag} {mg : Str → Option Value} {base : Heap} {C : Addr} {f1 f2 f3 : Str}
noncomputable def fI (Z : X3 P w K mg base C f1 f2 f3) : Addr := Classical.choose Z.ex
noncomputable def fd (Z : X3 P w K mg base C f1 f2 f3) : FuncData := Classical.choose (Classical.choose_spec Z.ex)
noncomputable def px (Z : X3 P w K mg base C f1 f2 f3) : Str := Classical.choose (Classical.choose_spec (Classical.choose_spec Z.ex))
noncomputable def py (Z : X3 P w K mg base C f1 f2 f3) : Str := Classical.choose (Classical.choose_spec (Classical.choose_spec (Classical.choose_spec Z.ex)))
noncomputable def pz (Z : X3 P w K mg base C f1 f2 f3) : Str := Classical.choose (Classical.choose_spec (Classical.choose_spec (Classical.choose_spec (Classical.choose_spec Z.ex))))
theorem all (Z : X3 P w K mg base C f1 f2 f3) : findIn K (.ref C) "__init__" = some (some (.ref Z.fI)) ∧ typeIn K (.ref Z.fI) = some (.type "function") ∧ FnOk P w K mg base (L2.CX P w) 1 Z.fI Z.fd ["self", Z.px, Z.py, Z.pz] (spI3 K C f1 f2 f3) ∧ Binds K Z.fd ["self", Z.px, Z.py, Z.pz] [] :=
  Classical.choose_spec (Classical.choose_spec (Classical.choose_spec (Classical.choose_spec (Classical.choose_spec Z.ex))))
end X3
end DL

/-! FZ: statements that are never reached (own work). -/
namespace DL
open PySem L2 PySem.Spec PyProof.Rows PySem.W
end DL

/-! GA: d.setdefault(text, []), d.clear(), cells behind tuples (own work). -/
namespace DL
open PySem L2 PySem.W PyProof.Rows
section
variable {K : PySem.W.Frag} {B F F0 H H' : Hp} {ro ro' : Ro} {ka k1 k2 kr kt : Cells} {ta : List (V × W)} {sg : L2.St} {te td ty tx : TE} {a : Addr} {De : Ends} {u : TS}
/-! ### what stands in a slot, its cells told as what they stand for -/
/-- d, with the cells kt, is the data e -/
def FzT (K : PySem.W.Frag) (kt : Cells) (d e : D) : Prop := ∀ F H v, Nz F → Thw K F H kt → Rp K F d v → Rp K (thF F H kt) e v
theorem FzT.same (d : D) : FzT K kt d d := fun F H v nz t h => Rp.mono (thF_sub t.no).exz nz _ _ h
theorem FzT.adr {d : D} (h : FrzD K kt a d) : FzT K kt (.adr a) d := fun F H v nz t e => by
  obtain rfl : v = .ref a := e
  exact h F H nz t
theorem FzT.tup {ds es : List D} (h : FzL K kt ds es) : FzT K kt (.tup ds) (.tup es) := fun F H v nz t ⟨b, xs, e1, h1, h2⟩ => ⟨b, xs, e1, h1.elim (fun q => .inl (q.elim (fun q => .inl (thF_sub t.no _ _ q)) fun ⟨z, q⟩ => .inr ⟨z, thF_sub t.no _ _ q⟩)) .inr, h.rp nz t h2⟩
end
end DL
namespace DL
open PySem L2 PySem.Spec PyProof.Rows PySem.W
end DL

/-! GB: generators that raise ahead of their first yield (own work). -/
namespace DL
open PySem L2 PySem.Spec PyProof.Rows PySem.W
/-- how a generator ends that gives nothing: by its contract, which knows no return -/
def spGX (K : PySem.W.Frag) (C : Ct) : SpG := fun vs H _ E => spC K C vs H (fun _ _ => False) E
def GFx (P : Program) (w : World) (K : PySem.W.Frag) (mg : Str → Option Value) (base : Heap) (k : Nat) (f : Addr) (ps : List Str) (C : Ct) : Prop := ∃ fd, GFn P w K mg base k f fd ps (spGX K C) ∧ L2.Binds K fd ps []
noncomputable def GFx.fd {P : Program} {w : World} {K : PySem.W.Frag} {mg : Str → Option Value} {base : Heap} {f : Addr} {ps : List Str} {k : Nat} {C : Ct} (F : GFx P w K mg base k f ps C) : FuncData := Classical.choose F
theorem GFx.ok {P : Program} {w : World} {K : PySem.W.Frag} {mg : Str → Option Value} {base : Heap} {f : Addr} {ps : List Str} {k : Nat} {C : Ct} (F : GFx P w K mg base k f ps C) : GFn P w K mg base k f F.fd ps (spGX K C) := (Classical.choose_spec F).1
theorem GFx.bn {P : Program} {w : World} {K : PySem.W.Frag} {mg : Str → Option Value} {base : Heap} {f : Addr} {ps : List Str} {k : Nat} {C : Ct} (F : GFx P w K mg base k f ps C) : L2.Binds K F.fd ps [] := (Classical.choose_spec F).2
section
variable {P : Program} {w : World} {K : PySem.W.Frag} {mg : Str → Option Value} {base : Heap} {f : Addr} {fd : FuncData} {x qual : Str} {params : Arguments} {st : Stmt} {rest body : List Stmt} {scope : Scope} {ps N : List Str} {k j : Nat} {C : Ct}
end
section
variable {K : PySem.W.Frag} {ro : Ro} {ka k2 : Cells} {tr : TA} {Cc : Ct} {E : XK} {C1 : Addr} {gs : List (Str × D)}
end
section
variable {K : PySem.W.Frag} {ro : Ro} {ka k1 k2 k3 kr : Cells} {te tf : TE} {tr : TA} {Cc : Ct} {E : XK} {C C1 : Addr} {gs : List (Str × D)} {w : W} {ws : List W}
/-- the second argument raises -/
theorem evx_arg2 {sp : Sp} {E' : XK} {dvs : List V} (h1 : EvD K te ro ka w k1) (h2 : EvX K tf ro k1 E C1 gs k2) : EvX K (tCall sp dvs E' (tCons te (tCons tf tr))) ro ka E C1 gs k2 := fun B F0 ta sg H Q e q =>
  h1 B F0 ta sg H _ e fun v H1 e1 => h2 B F0 _ sg H1 _ e1 fun dx H2 e2 => q dx H2 e2.pop
theorem evx_opL {r : R2} (h : EvX K te ro ka E C1 gs k2) : EvX K (tOp r te tf) ro ka E C1 gs k2 := fun B F0 ta sg H Q e q => h B F0 ta sg H _ e q
theorem evx0_opL {r : R2} (h : EvX0 K te ro ka E C1 k2) : EvX0 K (tOp r te tf) ro ka E C1 k2 := fun B F0 ta sg H Q e q => h B F0 ta sg H _ e q
end
end DL

/-! GC: targets that are fields, items of own objects set by their class (own work). -/
namespace DL
open PySem L2 PySem.W
section
variable {X : Cx} {k : Nat} {C f : Addr} {ps : List Str} {E : XK} {Ct' : Ct} {pos : Pos} {o : Expr} {to : TE} {x : Str}
end
section
variable {K : PySem.W.Frag} {B F0 : Hp} {ro : Ro} {ka k1 k2 k3 kr k4 : Cells} {ta : List (V × W)} {te tf tg : TE} {tr : TA} {w x y z : W} {a C : Addr} {De : Ends} {u : TS} {fs : List (Str × D)} {d d1 d2 : D} {i j : Nat} {f : Str}
end
end DL

/-! GD: x op= y of an own class within a try whose clauses read slots (own work). -/
namespace DL
open PySem L2 PySem.W
section
variable {X : Cx} {k : Nat} {C f : Addr} {ps : List Str} {E : L2.St → XK} {Cc : Ct} {e : Expr} {pos pos' : Pos} {te : TE}
end
/-- the slots of a suite where those of the try are kept -/
def nameR (ro : Ro) (a : Addr) : Option Nat → Ro
  | none => ro
  | some i => ro.set i (some (.val (.adr a)))
section
variable {K : PySem.W.Frag} {B F0 : Hp} {ro : Ro} {ka k1 k2 k3 kr : Cells} {ta : List (V × W)} {te : TE} {C C1 : Addr} {fs gs : List (Str × D)} {De De' : Ends} {l : List Cla} {oi : Option Nat} {ts : Addr → Value → Option Addr → TS} {Wout : WX} {x y : W} {b : Bool} {Cc : Ct} {i : Nat} {E : L2.St → XK}
theorem En.named (e : En K B F0 ro ka ta sg H) (a : Addr) : En K B F0 (nameR ro a oi) ka ta (nameS sg a oi) H := by
  cases oi with
  | none => exact e
  | some j => exact e.setA j a
theorem EvX.less {E : XK} (h : EvX K te ro ka E C1 gs k2) (s : k3.Sublist k2) : EvX K te ro ka E C1 gs k3 := fun B F0 ta sg H Q e q => h B F0 ta sg H Q e fun dx H' e' => q dx H' (e'.less (s.append (List.Sublist.refl _)))
theorem EvX.pm {E : XK} (h : EvX K te ro k1 E C1 gs k2) (s1 : k1.Perm ka) (s2 : k2.Perm k3) : EvX K te ro ka E C1 gs k3 := fun B F0 ta sg H Q e q => h B F0 ta sg H Q (e.perm s1) fun dx H' e' => q dx H' (e'.perm (s2.symm.append_right _))
end
section
variable {K : PySem.W.Frag} {ro ro' : Ro} {t : TGs}
end
end DL

/-! GE: for x, y in zip(t, l), t a tuple, l a list: the library's GoesN.zip2 over its Draws, told for the hand layer (own work). -/
namespace DL
open PySem L2 PySem.W PyProof.Rows
/-- what stands at turn i -/
structure ZpM (a b z TI TO i1 i2 : Addr) (i : Nat) (h : Heap) : Prop where
  zp : IsZip h z TI TO .none
  ti : IsTupOf2 h TI (.ref i1) (.ref i2)
  to : ∃ x y, IsTupOf2 h TO x y
  t1 : h.IsTupleIter i1 a i
  l2 : h.IsListIter i2 b i
  sep : ZipSep2 z TI TO i1 i2 [i1, a] [i2, b]
namespace ZpM
variable {a b z TI TO i1 i2 : Addr} {i : Nat} {h : Heap}
theorem cells (q : ZpM a b z TI TO i1 i2 i h) : ∀ c ∈ [z, TI, TO, i1, i2], ∃ o, h.get? c = some o ∧ ∀ v, o.data ≠ .cell v := by
  obtain ⟨e0, e1, ⟨_, _, e2⟩, ⟨o3, e3, _, d3⟩, ⟨o4, e4, _, d4⟩, _⟩ := q
  simp only [List.forall_mem_cons, List.not_mem_nil, false_imp_iff, implies_true, and_true]
  exact ⟨⟨_, e0, fun _ c => nomatch c⟩, ⟨_, e1, fun _ c => nomatch c⟩, ⟨_, e2, fun _ c => nomatch c⟩, ⟨o3, e3, fun _ c => nomatch d3.symm.trans c⟩, o4, e4, fun _ c => nomatch d4.symm.trans c⟩
theorem le (q : ZpM a b z TI TO i1 i2 i h) {c T : Addr} (hc : c ∈ [z, TI, TO, i1, i2]) (hT : h.objs.size ≤ T) : c ≠ T := fun e =>
  let ⟨_, y, _⟩ := q.cells c hc
  Nat.lt_irrefl _ (Nat.lt_of_lt_of_le (e ▸ Heap.lt_size y) hT)
end ZpM
end DL
namespace DL
open PySem L2 PySem.W
section
variable {K : PySem.W.Frag} {ro : Ro} {ka k1 k2 : Cells} {te tf : TE}
end
end DL

/-! GG: two dicts with tuples as keys compared, where every value is True (own work). -/
namespace DL
open PySem L2 PySem.W PyProof.Rows
section
variable {prog : Program} {w : World} {A : Around} {E : Value → Shared → Prop} {s : Shared}
variable {K : Type} [DecidableEq K] {knd : HeapKind prog w K}
end
theorem SeesN.true {xs : List (NestedKey × Addr × V)} {qs : List (NestedKey × Addr × Value)} (r : SeesN xs qs) (t : ∀ p ∈ xs, p.2.2 = .bl true) : ∀ q ∈ qs, q.2.2 = .bool true := by
  unfold SeesN at r
  induction r with
  | nil => exact fun _ h => nomatch h
  | @cons p q ps qs h _ ih =>
    intro x hx
    rcases List.mem_cons.mp hx with rfl | hx
    · have h3 := h.2.2
      rw [t p List.mem_cons_self] at h3
      exact h3
    · exact ih (fun p hp => t p (List.mem_cons_of_mem _ hp)) x hx
theorem SeesN.all {xs ys : List (NestedKey × Addr × V)} {qs rs : List (NestedKey × Addr × Value)} (r : SeesN xs qs) (t : SeesN ys rs) : (qs.all fun q => (atKey rs q.1).isSome) = xs.all fun p => hasT (rowN ys) p.1 := by
  unfold SeesN at r
  induction r with
  | nil => rfl
  | @cons p q ps qs h _ ih =>
    rw [List.all_cons, List.all_cons, ih, ← h.1]
    rcases t.has p.1 with ⟨_, h1, h2⟩ | ⟨_, _, _, h1, h2, _⟩ <;> rw [h1, h2] <;> rfl
section
variable {K : PySem.W.Frag} {wd : World} {ro : Ro} {ka k1 k2 : Cells} {te tf : TE} {x y : W} {ds es : List (NestedKey × D)} {b1 b2 : Bool}
end
end DL

/-! GH: comprehensions over rows of three (own work). -/
namespace DL
open PySem L2 PySem.W
section
variable {K : PySem.W.Frag} {B F F0 : Hp} {ro : Ro} {ka k1 : Cells} {ta : List (V × W)} {sg : L2.St} {H : Hp} {te : TE} {tt : TT} {d1 d2 d3 : D} {j l o : Nat}
end
section
variable {K : PySem.W.Frag} {B F0 : Hp} {ro : Ro} {ka k1 : Cells} {ta : List (V × W)} {sg : L2.St} {H : Hp} {te : TE} {De : Ends} {u : TS} {P : W → Cells → Prop}
end
end DL

/-! GF: f-strings and join, by data (own work). -/
namespace DL
open PySem L2 PySem.W PyProof.Rows
section
variable {K : PySem.W.Frag} {ro : Ro} {ka k1 k2 : Cells} {te to : TE} {w : W}
/-- the parts of an f-string: the texts that they give -/
inductive EvJ (K : PySem.W.Frag) (ro : Ro) : List TE → Cells → List Str → Cells → Prop where
  | nil {ka : Cells} : EvJ K ro [] ka [] ka
  | cons {t : TE} {ts : List TE} {ka k1 k : Cells} {s : Str} {r : List Str} (h : EvD K t ro ka (.val (.str s)) k1) (hr : EvJ K ro ts k1 r k) : EvJ K ro (t :: ts) ka (s :: r) k
end
end DL

/-! GI: a for loop within a generator (own work). -/
namespace DL
open PySem L2 PySem.Spec PyProof.Rows PySem.W GenW
section
variable {prog : Program} {w : World} {A : Around} {R : GenEnd} {Y : Protocol} {n : Nat} {s₀ : Shared} {fs : List Frame} {s : Shared} {env : Env}
end
section
variable {X : Cx}
end

/-! ### the contract of a generator: what it hands out, as data -/
def spGY (K : PySem.W.Frag) (C : Ct) : SpG := fun vs H cont E => ∃ B F ws ka out, C ws ka out ∧ vs.length = ws.length ∧ En K B F [] ka (vs.zip ws) [] H ∧
  (∀ ds k ys H', out (.ret (.lst ds)) k → ys.length = ds.length → En K B F [] k (ys.zip (ds.map W.val)) [] H' → cont ys H') ∧ RxOk K B F out E
def GFy (P : Program) (w : World) (K : PySem.W.Frag) (mg : Str → Option Value) (base : Heap) (k : Nat) (f : Addr) (ps : List Str) (C : Ct) : Prop := ∃ fd, GFn P w K mg base k f fd ps (spGY K C) ∧ L2.Binds K fd ps []
noncomputable def GFy.fd {P : Program} {w : World} {K : PySem.W.Frag} {mg : Str → Option Value} {base : Heap} {f : Addr} {ps : List Str} {k : Nat} {C : Ct} (F : GFy P w K mg base k f ps C) : FuncData := Classical.choose F
theorem GFy.ok {P : Program} {w : World} {K : PySem.W.Frag} {mg : Str → Option Value} {base : Heap} {f : Addr} {ps : List Str} {k : Nat} {C : Ct} (F : GFy P w K mg base k f ps C) : GFn P w K mg base k f F.fd ps (spGY K C) := (Classical.choose_spec F).1
theorem GFy.bn {P : Program} {w : World} {K : PySem.W.Frag} {mg : Str → Option Value} {base : Heap} {f : Addr} {ps : List Str} {k : Nat} {C : Ct} (F : GFy P w K mg base k f ps C) : L2.Binds K F.fd ps [] := (Classical.choose_spec F).2
section
variable {K : PySem.W.Frag} {B F0 : Hp} {ro : Ro} {k k1 : Cells} {wi : TI} {ds : List D} {j : Nat} {cont : List V → Hp → Prop}
end
section
variable {P : Program} {w : World} {K : PySem.W.Frag} {mg : Str → Option Value} {base : Heap} {f : Addr} {x qual : Str} {params : Arguments} {st : Stmt} {body : List Stmt} {scope : Scope} {ps N : List Str} {k : Nat} {C : Ct} {tg iter e : Expr} {yp pos pos2 : Pos}
end
section
variable {K : PySem.W.Frag} {ro : Ro} {ka k1 k2 kr : Cells} {tr : TA} {Cc : Ct} {E E' : XK} {C1 : Addr} {gs : List (Str × D)} {ws : List W} {ds : List D}
end
end DL

/-! GJ: calls within try of whose end a word tells, errors too (own work). -/
namespace DL
open PySem L2 PySem.Spec PyProof.Rows PySem.W
/-- te ends with a value, an error with fields, or one without: words tell of each -/
def EvXR (K : PySem.W.Frag) (te : TE) (ro : Ro) (ka : Cells) (E : XK) (P : W → Cells → Prop) (PX : Addr → List (Str × D) → Cells → Prop) (P0 : Addr → Cells → Prop) : Prop := ∀ B F0 ta sg H (Q : VK), En K B F0 ro ka ta sg H →
  (∀ w k v H', P w k → En K B F0 ro k ((v, w) :: ta) sg H' → Q v H') → (∀ C gs k dx H', PX C gs k → En K B F0 ro (k ++ [(dx, .xd gs)]) ta sg H' → E (.ref C) (some dx) H') → (∀ C k H', P0 C k → En K B F0 ro k ta sg H' → E (.ref C) none H') → te sg H Q
section
variable {K : PySem.W.Frag} {B F0 : Hp} {ro : Ro} {ka k1 k2 k3 kr : Cells} {ta : List (V × W)} {sg : L2.St} {H : Hp} {te tf : TE} {tr : TA} {C C1 : Addr} {E : XK} {De De' : Ends} {l : List Cla} {Wout : WX} {P P2 : W → Cells → Prop} {PX : Addr → List (Str × D) → Cells → Prop} {P0 : Addr → Cells → Prop}
/-- .. what comes back, frozen -/
theorem EvXR.imp (h : EvXR K te ro ka E P PX P0) (i : ∀ w k, P w k → P2 w k) : EvXR K te ro ka E P2 PX P0 := fun B F0 ta sg H Q e q qx q0 => h B F0 ta sg H Q e (fun w k v H' p => q w k v H' (i w k p)) qx q0
end
end DL

/-! GK: defs that are called while an exception is handled, of which nothing is known but its object; they raise nothing (own work). -/
namespace DL
open PySem L2 PySem.Spec PyProof.Rows PySem.W
/-- nothing is raised -/
abbrev noX : XK := fun _ _ _ => False
/-- a def that ends with a value, whatever exception is handled; p: an object that stands beside what is tracked -/
structure FnM (P : Program) (w : World) (K : PySem.W.Frag) (mg : Str → Option Value) (base : Heap) (k : Nat) (f : Addr) (ps : List Str) (C : Ct) : Prop where
  len : ∀ ws ka out, C ws ka out → ws.length = ps.length
  run : ∀ (A : Around) (outer : List Env) (s : Shared) (H : Hp) (us : List Value) (vs : List V) (Q : VK) (p : Addr × Obj), L2H.RoomH k A → L2H.PinOk outer H s p → Env0 P w K mg base A outer s H → Vals vs us → spC K C vs H Q noX →
    codeAny (model P w) A (.call (.ref f) ⟨us, []⟩) (fun r s' => ∃ u, r = .ok (.ret u) ∧ CE outer P w H s Q u s') s
section
variable {P : Program} {w : World} {K : PySem.W.Frag} {mg : Str → Option Value} {base : Heap} {f : Addr} {fd : FuncData} {x qual : Str} {params : Arguments} {body : List Stmt} {scope : Scope} {ps N : List Str} {k j : Nat} {C : Ct}
theorem FnM.up (F : FnM P w K mg base j f ps C) (h : j ≤ k) : FnM P w K mg base k f ps C := ⟨F.len, fun A outer s H us vs Q p hr => F.run A outer s H us vs Q p (hr.mono h)⟩
end
end DL

/-! GL: errors that leave x[i] = v, a method on cells, and the arguments of C(..) (own work). -/
namespace DL
open PySem L2 PySem.W
section
variable {K : PySem.W.Frag} {B F0 : Hp} {ro : Ro} {ka k1 k2 k3 k4 kr : Cells} {ta : List (V × W)} {te tf tg : TE} {tr : TA} {De : Ends} {u : TS} {C C1 : Addr} {fs gs : List (Str × D)} {out : Oc} {E E' : XK} {x y z w : W} {b : Bool} {Cc : Ct} {ws : List W}
/-- x = e, e raises an error without fields -/
theorem q_asgP0 {g : TG} (hX : RxOk K B F0 out E) (h : EvX0 K te ro ka E C1 k2) (o : out (.exc0 C1) k2) : Gp K B F0 ta (tSeq (tAsg te g) u De) ro ka := fun sg H e => h B F0 ta sg H _ e fun H' e' => hX.2 C1 k2 H' o e'.leaveX
/-- a statement that raises an error without fields, caught -/
theorem g_dropY0 {De' : Ends} {l : List Cla} {oi : Option Nat} {ts : Addr → Value → Option Addr → TS} {Wout : WX} (h : EvX0 K te ro ka (XW ro.length (wCla K Wout De l)) C1 k2) (hit : Hit K C1 l oi ts) (hs : ∀ a, Gp K B F0 ta (ts a (.ref C1) none (goneE De oi)) (suiteR ro.length a oi) k2) : Gp K B F0 ta (tDrop te De') ro ka := fun sg H e => h B F0 ta sg H _ e fun H' e' => xw_cla hit hs e'
end
end DL

/-! GM: sorted(set(texts)) (own work). -/
namespace DL
open PySem L2 PySem.W PyProof.Rows PySem.Froz

def strV : Value → Str
  | .str k _ => k
  | _ => Str.empty
/-- the texts that lie there -/
def txs (D : SD) : List Str := D.1.toList.map fun e => strV e.2
/-- the set of the texts l at a -/
def SxAt (P : Program) (w : World) (h : Heap) (a : Addr) (l : List Str) : Prop := ∃ D : SD, h.get? a = some (sObj "set" D) ∧ TxOk P w D l ∧ (txs D).Perm l ∧ Ris D.2.2.place.toList ∧ (w.params.followText "set-order" = true ∨ D.2.2.led = true)
theorem SxAt.keep {P : Program} {w : World} {h h' : Heap} {a : Addr} {l : List Str} (x : SxAt P w h a l) (k : ∀ o, h.get? a = some o → h'.get? a = some o) : SxAt P w h' a l :=
  let ⟨D, ho, r⟩ := x
  ⟨D, k _ ho, r⟩
theorem SxAt.new {P : Program} {w : World} {h : Heap} {a : Addr} (ho : h.get? a = some { cls := .type "set", dict := none, data := .set #[] 0 (.fresh 0 0 (!w.params.followText "set-order")) }) : SxAt P w h a [] :=
  ⟨(#[], 0, .fresh 0 0 (!w.params.followText "set-order")), ho, TxOk.nil rfl, List.Perm.refl _, List.Pairwise.nil, by
    show _ ∨ (!w.params.followText "set-order") = true
    cases w.params.followText "set-order" <;> simp⟩
section
variable {P : Program} {w : World} {A : Around} {E : Value → Shared → Prop} {s : Shared}
end

section
variable {X : Cx} {e : Expr} {te : TE} {p p2 q pos : Pos}
end
section
variable {K : PySem.W.Frag} {ro : Ro} {ka k1 : Cells} {te : TE} {w : W}
end
end DL

/-! GN: text * number, text in text (own work). -/
namespace DL
open PySem L2 PySem.W PyProof.Rows

section
variable {K : PySem.W.Frag} {ro : Ro} {ka k1 k2 : Cells} {te tf : TE}
variable {E E' : XK} {C C1 : Addr} {gs : List (Str × D)} {w : W} {tr : TA} {sp : Sp}
end
end DL

/-! GO: ring texts and their windows (own work). -/
namespace DL
open PySem L2 PySem.W PyProof.Rows
end DL

/-! GP: returns within try whose clause reads slots; join of what a word tells (own work). -/
namespace DL
open PySem L2 PySem.W PyProof.Rows
section
variable {K : PySem.W.Frag} {B F0 : Hp} {ro : Ro} {ka k1 k2 k3 kr : Cells} {ta : List (V × W)} {sg : L2.St} {H : Hp} {te tf tg to : TE} {tr : TA} {De De' : Ends} {w x y : W}
end
end DL

/-! GQ: a dict of the module asked, a class held by a local name, classmethods (own work). -/
namespace DL
open PySem L2 PySem.W PyProof.Rows
section
variable {X : Cx} {CX : CXT} {k i : Nat} {C f : Addr} {fd : FuncData} {ps : List Str} {sp : Sp} {dvs : List V} {ds : List Value} {E : XK} {x : Str} {p pos : Pos} {e : Expr} {es : List Expr} {t : TA} {kvs : List (Str × Str)} {d : Addr}
end
section
variable {K : PySem.W.Frag} {B F0 : Hp} {ro : Ro} {ka k1 k2 k3 kr : Cells} {ta : List (V × W)} {sg : L2.St} {H : Hp} {te tf tg to : TE} {tr : TA} {De De' : Ends} {w x y : W} {kvs : List (Str × Str)} {d C : Addr} {E : XK}
end
end DL

/-! GR: written patterns read sign by sign, in plain words (own work). -/
namespace DL
open PySem L2 PySem.W
/-- all names of a tree are names, an atom that takes has some -/
def nmT : Tr → Prop
  | .at k ns => (∀ n ∈ ns, isNm n = true) ∧ (k = true → ns ≠ [])
  | .join a b => nmT a ∧ nmT b
  | .either a b => nmT a ∧ nmT b
  | .rep a => nmT a
  | .opt a => nmT a
/-- what a reader that is right tells: a place further on, a tree of names, of no more atoms than signs -/
structure RdOk (cs : List Nat) (i : Nat) (t : Tr) (e : Nat) : Prop where
  lt : i < e
  le : e ≤ cs.length
  nm : nmT t
  nd : t.ats ≤ e - i
end DL

/-! GS: objects made by a class that a local name holds, the argument of which raises (own work). -/
namespace DL
open PySem L2 PySem.W PyProof.Rows
section
variable {K : PySem.W.Frag} {ro : Ro} {ka k1 k2 : Cells} {te : TE} {tr : TA} {w : W} {C C1 : Addr} {E E' : XK} {i : Nat} {sp : Sp} {dvs : List V} {gs : List (Str × D)}
end
end DL

/-! GT: the text of a tree, read back (own work). -/
namespace DL
open PySem L2 PySem.W
end DL

/-! GW: a written pattern gone through sign by sign: the first place at which none goes on is the place that the reader tells (own work). -/
namespace DL
open PySem L2 PySem.W
/-- what may come next -/
inductive Md where
  | item | name | after | opn | caret | inname | next | close | space | bar | wrong
  deriving DecidableEq
def Md.s : Md → Str
  | .item => "item" | .name => "name" | .after => "after" | .opn => "open" | .caret => "caret" | .inname => "inname" | .next => "next" | .close => "close" | .space => "space" | .bar => "bar" | .wrong => "wrong"
section
variable {cs : List Nat}
end
end DL

/-! GX: how deep and how large the tree is that is read from a text, by its blanks and opening brackets (own work). -/
namespace DL
open PySem L2 PySem.W
section
variable {cs : List Nat}
/-- how often a sign stands from a place on -/
def cnS (cs : List Nat) (x i : Nat) : Nat := (cs.drop i).count x
/-- nodes of a tree -/
def nodT : Tr → Nat
  | .at _ _ => 1
  | .join a b => nodT a + nodT b + 1
  | .either a b => nodT a + nodT b + 1
  | .rep a => nodT a + 1
  | .opt a => nodT a + 1
/-- no atom has more names -/
def nmsN (n : Nat) : Tr → Prop
  | .at _ ns => ns.length ≤ n
  | .join a b => nmsN n a ∧ nmsN n b
  | .either a b => nmsN n a ∧ nmsN n b
  | .rep a => nmsN n a
  | .opt a => nmsN n a
/-- a thing read is no larger than its blanks and brackets say -/
structure SzR (cs : List Nat) (i e : Nat) (t : Tr) : Prop where
  nd : nodT t + 2 * cnS cs 32 e + cnS cs 40 e ≤ 1 + 2 * cnS cs 32 i + cnS cs 40 i
  dp : t.dep + cnS cs 32 e + cnS cs 40 e ≤ cnS cs 32 i + cnS cs 40 i
  nm : nmsN (cnS cs 32 0 + 1) t
end
end DL

/-! GZ: for i, c in enumerate(x), x a text: the library's GoesN over its Draws.text (own work). -/
namespace DL
open PySem L2 PySem.W PyProof.Rows
/-- what stands at turn i -/
structure EnS (x : Str) (t : Tok) (e it : Addr) (i : Nat) (h : Heap) : Prop where
  en : ∃ old, IsEnum h e it (0 + (i : Int)) old
  itr : h.IsStrIter it (strIterType x) x t i
  apart : e ≠ it
theorem EnS.cells {x : Str} {t : Tok} {e it : Addr} {i : Nat} {h : Heap} (z : EnS x t e it i h) : ∀ b ∈ [e, it], ∃ o, h.get? b = some o ∧ ∀ v, o.data ≠ .cell v := by
  obtain ⟨⟨_, y⟩, ⟨o, q, _, d⟩, _⟩ := z
  intro b hb
  rcases List.mem_cons.mp hb with rfl | hb
  · exact ⟨_, y, fun _ c => nomatch c⟩
  · rw [List.mem_singleton.mp hb]
    exact ⟨o, q, fun _ c => nomatch d.symm.trans c⟩
section
variable {K : PySem.W.Frag} {ro : Ro} {ka k1 : Cells} {te : TE}
end
end DL

/-! HA: the text of a tree that was read is no larger than the text it was read from, by its blanks and brackets (own work). -/
namespace DL
open PySem L2 PySem.W
/-- blanks of a tree's text, at most -/
def blT : Tr → Nat
  | .at _ ns => ns.length - 1
  | .join a b => blT a + blT b + 1
  | .either a b => blT a + blT b + 2
  | .rep a => blT a
  | .opt a => blT a
/-- brackets of a tree's text -/
def paT : Tr → Nat
  | .at _ _ => 0
  | .join a b => paT a + paT b
  | .either a b => paT a + paT b + 1
  | .rep a => paT a + 1
  | .opt a => paT a + 1
section
variable {cs : List Nat}
/-- what is read takes its blanks and brackets out of the text -/
structure TkR (cs : List Nat) (i e : Nat) (t : Tr) : Prop where
  b : blT t + cnS cs 32 e ≤ cnS cs 32 i
  p : paT t + cnS cs 40 e ≤ cnS cs 40 i
end
end DL

/-! HB: texts split, cls() without arguments, suites that are never reached (own work). -/
namespace DL
open PySem L2 PySem.W PyProof.Rows
section
variable {X : Cx} {CX : CXT} {k i : Nat} {C f : Addr} {fd : FuncData} {ps : List Str} {sp : Sp} {dvs : List V} {ds : List Value} {E : XK} {x : Str} {p pos : Pos}
end
section
variable {K : PySem.W.Frag} {ro : Ro} {ka k1 k2 : Cells} {te to : TE} {w : W}
end
end DL

/-! HC: comprehensions whose target is any pattern of names (own work). -/
namespace DL
open PySem L2 PySem.Spec PyProof.Rows PySem.W
def setsV (σ : L2.St) : List Nat → List V → L2.St
  | i :: is, v :: vs => setsV (σ.set i (some v)) is vs
  | _, _ => σ
section
variable {K : PySem.W.Frag} {B F F0 : Hp} {ro : Ro} {ka k1 : Cells} {ta : List (V × W)} {sg : L2.St} {H : Hp} {te : TE} {tt : TT}
theorem setsV_app : ∀ {is js : List Nat} {vs ws : List V} {σ : L2.St}, is.length = vs.length → setsV σ (is ++ js) (vs ++ ws) = setsV (setsV σ is vs) js ws
  | [], _, [], _, _, _ => rfl
  | _ :: is, _, _ :: vs, _, _, h => setsV_app (is := is) (vs := vs) (by simpa using h)
theorem rpL_app2 : ∀ {ds es : List D} {vs ws : List V}, RpL K F ds vs → RpL K F es ws → RpL K F (ds ++ es) (vs ++ ws)
  | [], _, vs, _, h, h2 => by
    have h : vs = [] := h
    subst h
    exact h2
  | _ :: _, _, _, _, h, h2 => by
    obtain ⟨v, r, rfl, r1, r2⟩ := h
    exact ⟨v, _, rfl, r1, rpL_app2 r2 h2⟩
theorem rpL_ln : ∀ {ds : List D} {vs : List V}, RpL K F ds vs → vs.length = ds.length
  | [], vs, h => by
    have h : vs = [] := h
    rw [h]
    rfl
  | _ :: _, _, h => by
    obtain ⟨v, r, rfl, _, r2⟩ := h
    rw [List.length_cons, List.length_cons, rpL_ln r2]
/-- what a pattern of names does with a thing: these slots hold these things -/
structure Tgt (K : PySem.W.Frag) (g : TG) (d : D) (sl : List Nat) (es : List D) : Prop where
  ln : sl.length = es.length
  run : ∀ {B F : Hp} {ro : Ro} {ka : Cells} {ta : List (V × W)} {sg σ : L2.St} {H : Hp} {x : V} {Q : L2.St → Hp → Prop}, EnF K B F ro ka ta sg H → Rp K F d x → (∀ vs, RpL K F es vs → Q (setsV σ sl vs) H) → g x σ H Q
theorem Tgt.name {d : D} {i : Nat} : Tgt K (gName i) d [i] [d] := ⟨rfl, fun _ r q => q [_] ⟨_, [], rfl, r, rfl⟩⟩
theorem Tgt.two {g1 g2 : TG} {d1 d2 : D} {s1 s2 : List Nat} {e1 e2 : List D} (h1 : Tgt K g1 d1 s1 e1) (h2 : Tgt K g2 d2 s2 e2) : Tgt K (gTup K 2 (gCons g1 (gCons g2 gNil))) (.tup [d1, d2]) (s1 ++ s2) (e1 ++ e2) :=
  ⟨by rw [List.length_append, List.length_append, h1.ln, h2.ln], fun e r q => by
    obtain ⟨a, xs, rfl, a1, a2⟩ := r
    obtain ⟨v1, r', rfl, r1, v2, r'', rfl, r2, rfl⟩ := a2
    refine ⟨a, _, rfl, sqT_mono e.fz e.nz a1, rfl, v1, [v2], rfl, h1.run e r1 fun vs q1 => ⟨v2, [], rfl, h2.run e r2 fun ws q2 => ⟨rfl, ?_⟩⟩⟩
    rw [← setsV_app (by rw [h1.ln, rpL_ln q1])]
    exact q _ (rpL_app2 q1 q2)⟩
end
end DL

/-! HD: a local name that holds one of some defs, called (own work). -/
namespace DL
open PySem L2 PySem.W PyProof.Rows
/-- the i-th slot holds one of these defs, which take any number of arguments; it is called -/
def tCallV (K : PySem.W.Frag) (i : Nat) (L : List (Addr × Ct)) (E : XK) (t : TA) : TE := fun σ H Q => ∃ p ∈ L, σ[i]? = some (some (.ref p.1)) ∧ tCall (spC K (CtV p.2)) [] E t σ H Q
section
variable {X : Cx} {k i : Nat} {L : List (Addr × Ct)} {E : XK} {x : Str} {p pos : Pos} {e : Expr} {es : List Expr} {t : TA}
theorem pe_callVL (F : ∀ q ∈ L, FnV X.prog X.w X.K X.mg X.base k q.1 q.2 ∧ PySem.W.keepIn X.K (.ref q.1) = true) (hr : Room k X.A) (hN : X.N[i]? = some x) (hv : Vis X.env.scope x) (hx : Passes (L2.CX X.prog X.w) X E) (ha : PA X (e :: es) t)
    (hdb : (x == ("__debug__" : Str)) = false := by decide) (hcd : (x == ("__classdict__" : Str)) = false := by decide)
    (st : starEach (e :: es) X.env = (false, eval e X.env) :: starEach es X.env := by rfl) (pl : (backTo pos (starEach es X.env)).any (·.1) = false := by rfl) : PE X (.Call (.Name x p) (e :: es) [] pos) (tCallV X.K i L E t) where
  run pins s σ H Q I := fun ⟨q, hq, hs, ht⟩ => wpAny_Call_Name_kw (thn ((pe_var (pos := p) hN hv hdb hcd).run pins s σ H (fun v H1 => v = .ref q.1 ∧ H1 = H) I ⟨.ref q.1, hs, rfl, rfl⟩) fun u s0 ⟨v, H0, I0, r0, e0⟩ => by
    obtain ⟨rfl, rfl⟩ := e0
    cases r0
    exact PySem.W.callWith_K (h₀ := X.base) I0.ok.mod.kin (F q hq).2 (thn (ha.run pos pins s0 σ _ _ I0 ht) fun us s1 ⟨vs, H1, J, rv, z⟩ => ⟨J.kIn, wpAny_call (run_fnR (F q hq).1 hr hx J rv (vs.append_nil ▸ z))⟩) st pl)
theorem pe_callVL0 (F : ∀ q ∈ L, FnV X.prog X.w X.K X.mg X.base k q.1 q.2 ∧ PySem.W.keepIn X.K (.ref q.1) = true) (hr : Room k X.A) (hN : X.N[i]? = some x) (hv : Vis X.env.scope x) (hx : Passes (L2.CX X.prog X.w) X E)
    (hdb : (x == ("__debug__" : Str)) = false := by decide) (hcd : (x == ("__classdict__" : Str)) = false := by decide) : PE X (.Call (.Name x p) [] [] pos) (tCallV X.K i L E tNil) where
  run pins s σ H Q I := fun ⟨q, hq, hs, ht⟩ => wpAny_Call_Name_kw (thn ((pe_var (pos := p) hN hv hdb hcd).run pins s σ H (fun v H1 => v = .ref q.1 ∧ H1 = H) I ⟨.ref q.1, hs, rfl, rfl⟩) fun u s0 ⟨v, H0, I0, r0, e0⟩ => by
    obtain ⟨rfl, rfl⟩ := e0
    cases r0
    exact PySem.W.callWith_K0 I0.kIn (F q hq).2 (wpAny_call (run_fnR (us := []) (F q hq).1 hr hx I0 .nil ht)))
end
section
variable {X : Cx} {CX : CXT} {k : Nat} {C f : Addr} {fd : FuncData} {ps : List Str} {sp : Sp} {dvs : List V} {ds : List Value} {E : L2.St → XK} {m : Str} {apos pos : Pos} {o e : Expr} {es : List Expr} {ta : TE} {t : TA}
/-- a method called where what it raises is wished for at the slots that stand then -/
theorem pe_methSD {pl : Sem Bool} (F : FnOk X.prog X.w X.K X.mg X.base CX k f fd ps sp) (room : Room k X.A) (bn : Binds X.K fd ps ds) (dv : Vals dvs ds) (pass : ∀ sg, PassesAt CX X sg (E sg)) (ob : PE X o ta) (cl : Cls X.K C) (mt : Meth X.K C m f) (ar : PA X (e :: es) t)
    (st : starEach (e :: es) X.env = (false, eval e X.env) :: starEach es X.env := by rfl) (lo : (backTo pos (starEach es X.env)).any (·.1) = false := by rfl)
    (un : eval (.Call (.Attribute o m apos) (e :: es) [] pos) X.env = (do
      let ov ← eval o X.env
      standAt apos.atName
      let (g, first) ← holding [ov] (getMethod ov m pl)
      callWith pos g first (backTo pos (starEach (e :: es) X.env)) (backToKw pos (keywordEach [] X.env))) := by rfl) : PE X (.Call (.Attribute o m apos) (e :: es) [] pos) (tAtS fun sg => tMeth C m sp dvs (E sg) ta t) where
  run pins s σ H Q I h := PySem.W.methodCall_KW (pl := pl) (thn (ob.run pins s σ H _ I h) fun _ _ ⟨_, _, J, ru, a, _, _, hx, ea, no, z⟩ => by
    subst hx
    cases ru
    exact getmeth_ok J ea cl mt no (PySem.W.callWith_K (first := [.ref a]) (h₀ := X.base) I.ok.mod.kin mt.kp (thn (ar.run pos pins _ σ _ _ J z) fun us _ ⟨vs, _, J2, rv, y⟩ => ⟨J2.kIn, run_fnSD (us := .ref a :: us) (vs := .ref a :: vs) F room bn dv (pass σ) J2 (.cons rfl rv) y⟩) st lo)) un
end
section
variable {K : PySem.W.Frag} {ro : Ro} {ka k1 k2 : Cells} {w : W} {i : Nat} {L : List (Addr × Ct)} {q : Addr × Ct} {E E' : XK} {tr : TA} {C1 : Addr} {gs : List (Str × D)}
theorem en_slot {B F0 : Hp} {ta : List (V × W)} {sg : L2.St} {H : Hp} {a : Addr} (e : En K B F0 ro ka ta sg H) (hi : ro[i]? = some (some (.val (.adr a)))) : sg[i]? = some (some (.ref a)) := by
  obtain ⟨F, g, e⟩ := e
  obtain ⟨v, h1, h2⟩ := e.sl i _ hi
  have : v = .ref a := h2
  rw [h1, this]
theorem ev_callV (hq : q ∈ L) (hi : ro[i]? = some (some (.val (.adr q.1)))) (h : EvD K (tCall (spC K (CtV q.2)) [] E tr) ro ka w k1) : EvD K (tCallV K i L E tr) ro ka w k1 := fun B F0 ta sg H Q e z => ⟨q, hq, en_slot e hi, h B F0 ta sg H Q e z⟩
theorem evx_callV (hq : q ∈ L) (hi : ro[i]? = some (some (.val (.adr q.1)))) (h : EvX K (tCall (spC K (CtV q.2)) [] E' tr) ro ka E C1 gs k1) : EvX K (tCallV K i L E' tr) ro ka E C1 gs k1 := fun B F0 ta sg H Q e z => ⟨q, hq, en_slot e hi, h B F0 ta sg H Q e z⟩
theorem evx0_callV (hq : q ∈ L) (hi : ro[i]? = some (some (.val (.adr q.1)))) (h : EvX0 K (tCall (spC K (CtV q.2)) [] E' tr) ro ka E C1 k1) : EvX0 K (tCallV K i L E' tr) ro ka E C1 k1 := fun B F0 ta sg H Q e z => ⟨q, hq, en_slot e hi, h B F0 ta sg H Q e z⟩
end
end DL

namespace K02
open PySem L2 DL PySem.W
structure Tx (K : PySem.W.Frag) (mg : Str → Option Value) : Prop where
  v_LETTERS : ∃ u, mg "LETTERS" = some u ∧ RelV (.str "abcdefghijklmnopqrstuvwxyz") u
  n_len : mg "len" = none
  v_LONGEST : ∃ u, mg "LONGEST" = some u ∧ RelV (.int 8) u
  n_isinstance : mg "isinstance" = none
  n_str : mg "str" = none
  n_all : mg "all" = none
  v_DIGITS : ∃ u, mg "DIGITS" = some u ∧ RelV (.str "0123456789") u
  x0_EmptyWalk : excIn K (He.ga K "EmptyWalk") He.veBase "ValueError.__new__" = true ∧ keepIn K (.ref (He.ga K "EmptyWalk")) = true ∧ subIn K (.ref (He.ga K "EmptyWalk")) (.type "BaseException") = some true ∧ typeIn K (.ref (He.ga K "EmptyWalk")) = some (.type "type")
  g_EmptyWalk : mg "EmptyWalk" = some (.ref (He.ga K "EmptyWalk")) ∧ keepIn K (.ref (He.ga K "EmptyWalk")) = true
  g_is_name : mg "is_name" = some (.ref (He.ga K "is_name")) ∧ keepIn K (.ref (He.ga K "is_name")) = true
  g_BadName : mg "BadName" = some (.ref (He.ga K "BadName")) ∧ keepIn K (.ref (He.ga K "BadName")) = true
  g_read_tree : mg "read_tree" = some (.ref (He.ga K "read_tree")) ∧ keepIn K (.ref (He.ga K "read_tree")) = true
  g_crossed : mg "crossed" = some (.ref (He.ga K "crossed")) ∧ keepIn K (.ref (He.ga K "crossed")) = true
  mk_Machine : Mk K (He.ga K "Machine") (He.ma K (He.ga K "Machine") "__init__")
  g_Machine : mg "Machine" = some (.ref (He.ga K "Machine")) ∧ keepIn K (.ref (He.ga K "Machine")) = true
  n_any : mg "any" = none
  n_tuple : mg "tuple" = none
  cl_Machine : Cls K (He.ga K "Machine")
  me_Machine_is_behind : Meth K (He.ga K "Machine") "is_behind" (He.ma K (He.ga K "Machine") "is_behind")
  me_Machine_takes : Meth K (He.ga K "Machine") "takes" (He.ma K (He.ga K "Machine") "takes")
  n_range : mg "range" = none
  g_all_names : mg "all_names" = some (.ref (He.ga K "all_names")) ∧ keepIn K (.ref (He.ga K "all_names")) = true
  me_Machine_started : Meth K (He.ga K "Machine") "started" (He.ma K (He.ga K "Machine") "started")
  me_Machine_is_done : Meth K (He.ga K "Machine") "is_done" (He.ma K (He.ga K "Machine") "is_done")
  me_Machine_after : Meth K (He.ga K "Machine") "after" (He.ma K (He.ga K "Machine") "after")
  g_check_lanes : mg "check_lanes" = some (.ref (He.ga K "check_lanes")) ∧ keepIn K (.ref (He.ga K "check_lanes")) = true
  mk_Pattern : Mk K (He.ga K "Pattern") (He.ma K (He.ga K "Pattern") "__init__")
  g_Pattern : mg "Pattern" = some (.ref (He.ga K "Pattern")) ∧ keepIn K (.ref (He.ga K "Pattern")) = true
  g_word_pattern : mg "word_pattern" = some (.ref (He.ga K "word_pattern")) ∧ keepIn K (.ref (He.ga K "word_pattern")) = true
  g_made_machine : mg "made_machine" = some (.ref (He.ga K "made_machine")) ∧ keepIn K (.ref (He.ga K "made_machine")) = true
  g_as_pattern : mg "as_pattern" = some (.ref (He.ga K "as_pattern")) ∧ keepIn K (.ref (He.ga K "as_pattern")) = true
  g_machine_of : mg "machine_of" = some (.ref (He.ga K "machine_of")) ∧ keepIn K (.ref (He.ga K "machine_of")) = true
  g_least_parting : mg "least_parting" = some (.ref (He.ga K "least_parting")) ∧ keepIn K (.ref (He.ga K "least_parting")) = true
  n_list : mg "list" = none
  t0_Net___init : IsT0 K (He.dflAt ("Net", some "__init__") 0 K)
  g_NameTaken : mg "NameTaken" = some (.ref (He.ga K "NameTaken")) ∧ keepIn K (.ref (He.ga K "NameTaken")) = true
  g_NoPost : mg "NoPost" = some (.ref (He.ga K "NoPost")) ∧ keepIn K (.ref (He.ga K "NoPost")) = true
  n_int : mg "int" = none
  g_law_take : mg "_law_take" = some (.ref (He.ga K "_law_take")) ∧ keepIn K (.ref (He.ga K "_law_take")) = true
  g_walk_of : mg "walk_of" = some (.ref (He.ga K "walk_of")) ∧ keepIn K (.ref (He.ga K "walk_of")) = true
  g_none_of : mg "none_of" = some (.ref (He.ga K "none_of")) ∧ keepIn K (.ref (He.ga K "none_of")) = true
  g_any_of : mg "any_of" = some (.ref (He.ga K "any_of")) ∧ keepIn K (.ref (He.ga K "any_of")) = true
  xc_BadName : Xc K (He.ga K "BadName")
  xn_BadName_name : findIn K (.ref (He.ga K "BadName")) "name" = some none
  mk_Round : Mk K (He.ga K "Round") (He.ma K (He.ga K "Round") "__init__")
  g_Round : mg "Round" = some (.ref (He.ga K "Round")) ∧ keepIn K (.ref (He.ga K "Round")) = true
  g_law_pattern : mg "_law_pattern" = some (.ref (He.ga K "_law_pattern")) ∧ keepIn K (.ref (He.ga K "_law_pattern")) = true
  g_within : mg "within" = some (.ref (He.ga K "within")) ∧ keepIn K (.ref (He.ga K "within")) = true
  g_parting : mg "parting" = some (.ref (He.ga K "parting")) ∧ keepIn K (.ref (He.ga K "parting")) = true
  mk_Net : Mk K (He.ga K "Net") (He.ma K (He.ga K "Net") "__init__")
  g_Net : mg "Net" = some (.ref (He.ga K "Net")) ∧ keepIn K (.ref (He.ga K "Net")) = true
  cl_Net : Cls K (He.ga K "Net")
  me_Net_post : Meth K (He.ga K "Net") "post" (He.ma K (He.ga K "Net") "post")
  pr_Net_posts : PropOf K (He.ga K "Net") "posts" (He.ma K (He.ga K "Net") "posts") (pga K (He.ga K "Net") "posts")
  me_Net_lane : Meth K (He.ga K "Net") "lane" (He.ma K (He.ga K "Net") "lane")
  pr_Net_lanes : PropOf K (He.ga K "Net") "lanes" (He.ma K (He.ga K "Net") "lanes") (pga K (He.ga K "Net") "lanes")
  g_law_pool : mg "_law_pool" = some (.ref (He.ga K "_law_pool")) ∧ keepIn K (.ref (He.ga K "_law_pool")) = true
  g_law_cell : mg "_law_cell" = some (.ref (He.ga K "_law_cell")) ∧ keepIn K (.ref (He.ga K "_law_cell")) = true
  g_law_names : mg "_law_names" = some (.ref (He.ga K "_law_names")) ∧ keepIn K (.ref (He.ga K "_law_names")) = true
  g_law_spoiled : mg "_law_spoiled" = some (.ref (He.ga K "_law_spoiled")) ∧ keepIn K (.ref (He.ga K "_law_spoiled")) = true
  g_law_is_name : mg "_law_is_name" = some (.ref (He.ga K "_law_is_name")) ∧ keepIn K (.ref (He.ga K "_law_is_name")) = true
  g_law_refused : mg "_law_refused" = some (.ref (He.ga K "_law_refused")) ∧ keepIn K (.ref (He.ga K "_law_refused")) = true
  g_law_added : mg "_law_added" = some (.ref (He.ga K "_law_added")) ∧ keepIn K (.ref (He.ga K "_law_added")) = true
  xi_BadName : findIn K (.ref (He.ga K "BadName")) "__init__" = some (some (.ref (He.ma K (He.ga K "BadName") "__init__"))) ∧ typeIn K (.ref (He.ma K (He.ga K "BadName") "__init__")) = some (.type "function")
  xc_NameTaken : Xc K (He.ga K "NameTaken")
  xi_NameTaken : findIn K (.ref (He.ga K "NameTaken")) "__init__" = some (some (.ref (He.ma K (He.ga K "NameTaken") "__init__"))) ∧ typeIn K (.ref (He.ma K (He.ga K "NameTaken") "__init__")) = some (.type "function")
  xn_NameTaken_name : findIn K (.ref (He.ga K "NameTaken")) "name" = some none
  xc_NoPost : Xc K (He.ga K "NoPost")
  xi_NoPost : findIn K (.ref (He.ga K "NoPost")) "__init__" = some (some (.ref (He.ma K (He.ga K "NoPost") "__init__"))) ∧ typeIn K (.ref (He.ma K (He.ga K "NoPost") "__init__")) = some (.type "function")
  xn_NoPost_name : findIn K (.ref (He.ga K "NoPost")) "name" = some none
  g_law : mg "law" = some (.ref (He.ga K "law")) ∧ keepIn K (.ref (He.ga K "law")) = true
  kt_NoneType_str : kitOne K (.type "NoneType") (.type "str") = some false
  kt_bool_str : kitOne K (.type "bool") (.type "str") = some false
  kt_int_str : kitOne K (.type "int") (.type "str") = some false
  kt_list_str : kitOne K (.type "list") (.type "str") = some false
  kt_tuple_str : kitOne K (.type "tuple") (.type "str") = some false
  kt_str_str : kitOne K (.type "str") (.type "str") = some true
  na_Machine_atoms : NoAttr K (He.ga K "Machine") "atoms"
  na_Machine_firsts : NoAttr K (He.ga K "Machine") "firsts"
  na_Machine_lasts : NoAttr K (He.ga K "Machine") "lasts"
  na_Machine_pairs : NoAttr K (He.ga K "Machine") "pairs"
  na_Machine_is_optional : NoAttr K (He.ga K "Machine") "is_optional"
  np_0 : NoP K
  cl_Pattern : Cls K (He.ga K "Pattern")
  na_Pattern_tree : NoAttr K (He.ga K "Pattern") "tree"
  ci_Pattern : ClsI K (He.ga K "Pattern")
  ko_Pattern_Pattern : kitOne K (.ref (He.ga K "Pattern")) (.ref (He.ga K "Pattern")) = some true
  kc_list_Pattern : kitOne K (.type "list") (.ref (He.ga K "Pattern")) = some false
  kc_tuple_Pattern : kitOne K (.type "tuple") (.ref (He.ga K "Pattern")) = some false
  cl_Round : Cls K (He.ga K "Round")
  na_Round_line : NoAttr K (He.ga K "Round") "line"
  na_Net_order : NoAttr K (He.ga K "Net") "order"
  na_Net_ends_by_lane : NoAttr K (He.ga K "Net") "ends_by_lane"
  ex_BadName_BadName : exmOne K (.ref (He.ga K "BadName")) (.ref (He.ga K "BadName")) = some true
  ex_EmptyWalk_BadName : exmOne K (.ref (He.ga K "EmptyWalk")) (.ref (He.ga K "BadName")) = some false
  ex_EmptyWalk_EmptyWalk : exmOne K (.ref (He.ga K "EmptyWalk")) (.ref (He.ga K "EmptyWalk")) = some true
  d_is_name : ∃ fd, FunD K "is_name" "is_name" (defArgs s_is_name) (defBody s_is_name) (defScope s_is_name) [] [] (He.ga K "is_name") fd
  d_check_lanes : ∃ fd, FunD K "check_lanes" "check_lanes" (defArgs s_check_lanes) (defBody s_check_lanes) (defScope s_check_lanes) [] [] (He.ga K "check_lanes") fd
  d_crossed : ∃ fd, FunD K "crossed" "crossed" (defArgs s_crossed) (defBody s_crossed) (defScope s_crossed) [] [] (He.ga K "crossed") fd
  d_read_tree : ∃ fd, FunD K "read_tree" "read_tree" (defArgs s_read_tree) (defBody s_read_tree) (defScope s_read_tree) [] [] (He.ga K "read_tree") fd
  d_Machine___init : ∃ fd, FunD K "__init__" "Machine.__init__" (defArgs s_Machine___init) (defBody s_Machine___init) (defScope s_Machine___init) [] [] (He.ma K (He.ga K "Machine") "__init__") fd
  d_made_machine : ∃ fd, FunD K "made_machine" "made_machine" (defArgs s_made_machine) (defBody s_made_machine) (defScope s_made_machine) [] [] (He.ga K "made_machine") fd
  d_Machine_takes : ∃ fd, FunD K "takes" "Machine.takes" (defArgs s_Machine_takes) (defBody s_Machine_takes) (defScope s_Machine_takes) [] [] (He.ma K (He.ga K "Machine") "takes") fd
  d_Machine_is_behind : ∃ fd, FunD K "is_behind" "Machine.is_behind" (defArgs s_Machine_is_behind) (defBody s_Machine_is_behind) (defScope s_Machine_is_behind) [] [] (He.ma K (He.ga K "Machine") "is_behind") fd
  d_Machine_after : ∃ fd, FunD K "after" "Machine.after" (defArgs s_Machine_after) (defBody s_Machine_after) (defScope s_Machine_after) [] [] (He.ma K (He.ga K "Machine") "after") fd
  d_Machine_started : ∃ fd, FunD K "started" "Machine.started" (defArgs s_Machine_started) (defBody s_Machine_started) (defScope s_Machine_started) [] [] (He.ma K (He.ga K "Machine") "started") fd
  d_Machine_is_done : ∃ fd, FunD K "is_done" "Machine.is_done" (defArgs s_Machine_is_done) (defBody s_Machine_is_done) (defScope s_Machine_is_done) [] [] (He.ma K (He.ga K "Machine") "is_done") fd
  d_all_names : ∃ fd, FunD K "all_names" "all_names" (defArgs s_all_names) (defBody s_all_names) (defScope s_all_names) [] [] (He.ga K "all_names") fd
  d_least_parting : ∃ fd, FunD K "least_parting" "least_parting" (defArgs s_least_parting) (defBody s_least_parting) (defScope s_least_parting) [] [] (He.ga K "least_parting") fd
  d_Pattern___init : ∃ fd, FunD K "__init__" "Pattern.__init__" (defArgs s_Pattern___init) (defBody s_Pattern___init) (defScope s_Pattern___init) [] [] (He.ma K (He.ga K "Pattern") "__init__") fd
  d_any_of : ∃ fd, FunD K "any_of" "any_of" (defArgs s_any_of) (defBody s_any_of) (defScope s_any_of) [] [] (He.ga K "any_of") fd
  d_none_of : ∃ fd, FunD K "none_of" "none_of" (defArgs s_none_of) (defBody s_none_of) (defScope s_none_of) [] [] (He.ga K "none_of") fd
  d_word_pattern : ∃ fd, FunD K "word_pattern" "word_pattern" (defArgs s_word_pattern) (defBody s_word_pattern) (defScope s_word_pattern) [] [] (He.ga K "word_pattern") fd
  d_walk_of : ∃ fd, FunD K "walk_of" "walk_of" (defArgs s_walk_of) (defBody s_walk_of) (defScope s_walk_of) [] [] (He.ga K "walk_of") fd
  d_as_pattern : ∃ fd, FunD K "as_pattern" "as_pattern" (defArgs s_as_pattern) (defBody s_as_pattern) (defScope s_as_pattern) [] [] (He.ga K "as_pattern") fd
  d_machine_of : ∃ fd, FunD K "machine_of" "machine_of" (defArgs s_machine_of) (defBody s_machine_of) (defScope s_machine_of) [] [] (He.ga K "machine_of") fd
  d_within : ∃ fd, FunD K "within" "within" (defArgs s_within) (defBody s_within) (defScope s_within) [] [] (He.ga K "within") fd
  d_parting : ∃ fd, FunD K "parting" "parting" (defArgs s_parting) (defBody s_parting) (defScope s_parting) [] [] (He.ga K "parting") fd
  d_Round___init : ∃ fd, FunD K "__init__" "Round.__init__" (defArgs s_Round___init) (defBody s_Round___init) (defScope s_Round___init) [] [] (He.ma K (He.ga K "Round") "__init__") fd
  d_Net___init : ∃ fd, FunD K "__init__" "Net.__init__" (defArgs s_Net___init) (defBody s_Net___init) (defScope s_Net___init) [.ref (He.dflAt ("Net", some "__init__") 0 K), .non] [] (He.ma K (He.ga K "Net") "__init__") fd
  d_Net_posts : ∃ fd, FunD K "posts" "Net.posts" (defArgs s_Net_posts) (defBody s_Net_posts) (defScope s_Net_posts) [] [] (pga K (He.ga K "Net") "posts") fd
  d_Net_lanes : ∃ fd, FunD K "lanes" "Net.lanes" (defArgs s_Net_lanes) (defBody s_Net_lanes) (defScope s_Net_lanes) [] [] (pga K (He.ga K "Net") "lanes") fd
  d_Net_post : ∃ fd, FunD K "post" "Net.post" (defArgs s_Net_post) (defBody s_Net_post) (defScope s_Net_post) [] [] (He.ma K (He.ga K "Net") "post") fd
  d_Net_lane : ∃ fd, FunD K "lane" "Net.lane" (defArgs s_Net_lane) (defBody s_Net_lane) (defScope s_Net_lane) [] [] (He.ma K (He.ga K "Net") "lane") fd
  d_law_cell : ∃ fd, FunD K "_law_cell" "_law_cell" (defArgs s_law_cell) (defBody s_law_cell) (defScope s_law_cell) [] [] (He.ga K "_law_cell") fd
  d_law_pool : ∃ fd, FunD K "_law_pool" "_law_pool" (defArgs s_law_pool) (defBody s_law_pool) (defScope s_law_pool) [] [] (He.ga K "_law_pool") fd
  d_law_take : ∃ fd, FunD K "_law_take" "_law_take" (defArgs s_law_take) (defBody s_law_take) (defScope s_law_take) [] [] (He.ga K "_law_take") fd
  d_law_names : ∃ fd, FunD K "_law_names" "_law_names" (defArgs s_law_names) (defBody s_law_names) (defScope s_law_names) [] [] (He.ga K "_law_names") fd
  d_law_spoiled : ∃ fd, FunD K "_law_spoiled" "_law_spoiled" (defArgs s_law_spoiled) (defBody s_law_spoiled) (defScope s_law_spoiled) [] [] (He.ga K "_law_spoiled") fd
  d_law_pattern : ∃ fd, FunD K "_law_pattern" "_law_pattern" (defArgs s_law_pattern) (defBody s_law_pattern) (defScope s_law_pattern) [] [] (He.ga K "_law_pattern") fd
  d_law_refused : ∃ fd, FunD K "_law_refused" "_law_refused" (defArgs s_law_refused) (defBody s_law_refused) (defScope s_law_refused) [] [] (He.ga K "_law_refused") fd
  d_law_added : ∃ fd, FunD K "_law_added" "_law_added" (defArgs s_law_added) (defBody s_law_added) (defScope s_law_added) [] [] (He.ga K "_law_added") fd
  d_law_is_name : ∃ fd, FunD K "_law_is_name" "_law_is_name" (defArgs s_law_is_name) (defBody s_law_is_name) (defScope s_law_is_name) [] [] (He.ga K "_law_is_name") fd
  d_law : ∃ fd, FunD K "law" "law" (defArgs s_law) (defBody s_law) (defScope s_law) [] [] (He.ga K "law") fd
  d_BadName___init : ∃ fd, FunD K "__init__" "BadName.__init__" (defArgs s_BadName___init) (defBody s_BadName___init) (defScope s_BadName___init) [] [] (He.ma K (He.ga K "BadName") "__init__") fd
  d_NameTaken___init : ∃ fd, FunD K "__init__" "NameTaken.__init__" (defArgs s_NameTaken___init) (defBody s_NameTaken___init) (defScope s_NameTaken___init) [] [] (He.ma K (He.ga K "NameTaken") "__init__") fd
  d_NoPost___init : ∃ fd, FunD K "__init__" "NoPost.__init__" (defArgs s_NoPost___init) (defBody s_NoPost___init) (defScope s_NoPost___init) [] [] (He.ma K (He.ga K "NoPost") "__init__") fd
section
variable {P : Program} {w : World} {K : PySem.W.Frag} {mg : Str → Option Value} {base : Heap}
end
def ct_is_name (K : PySem.W.Frag) : Ct := Ct1 fun a ka out => ∃ d, a = .val d ∧ nmOk d ∧ ka = [] ∧ out = Rt (.bl (isNmD d)) []
section
variable {P : Program} {w : World} {K : PySem.W.Frag} {mg : Str → Option Value} {base : Heap}
theorem ok_is_name (T : Tx K mg) : Fn P w K mg base 4 (He.ga K "is_name") ["word"] (ct_is_name K) := by
  obtain ⟨fd, F⟩ := T.d_is_name
  refine fn_ok F sc_is_name (fun _ _ _ _ _ _ us hl => match us, hl with | [_], _ => rfl) ct1_len (fun cdv A outer s H E hr => ⟨_, (pss_cons (ps_if (PW.pt (pw_or (pt_not (pt_val (pe_callB call_isi rfl T.n_isinstance (by decide +kernel) (pa_cons (pv 0) (pa_cons (pe_bltn (v := .ty "str") rfl T.n_str (by decide +kernel) rfl) pa_nil))))) (pw_or (pt_cmpR (op_eqP (by have := (hr).units; exact this)) (pv 0) pe_str (nomark _)) (pw_or (pt_cmpR op_gt (pe_callB call_lenU rfl T.n_len (by decide +kernel) (pa_cons (pv 0) pa_nil)) (pe_gv rfl T.v_LONGEST) (nomark _)) (pw_or1 (pt_cmpR op_niU (pe_ix ix_seq (pv 0) pe_int fun _ _ => rfl) (pe_gv rfl T.v_LETTERS) (by with_unfolding_all rfl)))))))
      (pss_one (ps_ret pe_bl))
      pss_nil)
      (pss_one (ps_ret (pe_callB (cr_all rfl) rfl T.n_all (by decide +kernel) (pa_cons (pe_lc (te := (tOrV (tOp (rInU K) (tVar 1) (tC (.str "abcdefghijklmnopqrstuvwxyz"))) (tOp (rInU K) (tVar 1) (tC (.str "0123456789"))))) (tt := tYes) (own := [("sign", 1)]) rfl sc_is_name.nd (pi_seq (pv 0)) (blk_ok ["word", "sign"] (defScope s_is_name) rfl rfl (by decide +kernel)) (fun _ _ _ _ _ => (pg_name (i := 1) sc_is_name.nd rfl (by first | exact Or.inl rfl | exact Or.inr rfl))) (fun _ _ _ _ _ => pts_nil) (fun _ _ _ _ _ => (pe_or (pe_cmpR op_inU (pv 1) (pe_gv rfl T.v_LETTERS) (by with_unfolding_all rfl)) (pe_one (pe_cmpR op_inU (pv 1) (pe_gv rfl T.v_DIGITS) (by with_unfolding_all rfl)))))) pa_nil))))), fun ws ka out B F0 Q hC hR hX => ?_⟩)
  obtain ⟨a, rfl, d, rfl, hd, rfl, rfl⟩ := hC
  have other : (∃ s, d = .str s) ∨ ∃ t, tyD d = some t ∧ kitOne K (.type t) (.type "str") = some false ∧ isNmD d = false := by
    cases d with
    | non => exact .inr ⟨_, rfl, T.kt_NoneType_str, rfl⟩
    | bl b => exact .inr ⟨_, rfl, T.kt_bool_str, rfl⟩
    | int i => exact .inr ⟨_, rfl, T.kt_int_str, rfl⟩
    | lst ds => exact .inr ⟨_, rfl, T.kt_list_str, rfl⟩
    | tup ds => exact .inr ⟨_, rfl, T.kt_tuple_str, rfl⟩
    | str s => exact .inl ⟨s, rfl⟩
    | _ => exact absurd rfl hd
  rcases other with ⟨s, rfl⟩ | ⟨t, ht, hk, hn⟩
  · have hs : s.length ≤ 100000 := Nat.le_trans hd (by decide)
    cases hc : s.cps.toList with
    | nil =>
      have e := str_nil hc
      refine q_when (et_or0 ((et_not (et_B (ev_isi (ev_var rfl) .str T.kt_str_str))).to rfl) (et_or1 ((et_test (ev_eqS (ev_var rfl) ev_str)).to (by rw [e]; rfl)))) (fun _ => g_ret hR ev_bl ⟨?_, rfl⟩) (fun z => by cases z)
      show Out.ret (.bl false) = Out.ret (.bl (isNm s))
      unfold isNm
      rw [hc]
      rfl
    | cons c r =>
      have e : (s == ("" : Str)) = false := by
        refine beq_eq_false_iff_ne.mpr fun z => ?_
        rw [z] at hc
        cases hc
      have hl : s.length = (c :: r).length := by rw [str_len, hc]
      refine q_when (et_or0 ((et_not (et_B (ev_isi (ev_var rfl) .str T.kt_str_str))).to rfl) (et_or0 ((et_test (ev_eqS (ev_var rfl) ev_str)).to e) (et_or (et_test (ev_gt (ev_lenS (ev_var rfl) hs) ev_int)) (fun _ => et_test (ev_niS (ev_ixS (c := c) (ev_var rfl) ev_int hs (by rw [hc]; exact at0)) ev_str))))) (fun hb => g_ret hR ev_bl ⟨?_, rfl⟩) (fun hb => ?_)
      · show Out.ret (.bl false) = Out.ret (.bl (isNm s))
        unfold isNm nmL
        rw [hc]
        rw [Bool.or_eq_true, decide_eq_true_eq, Bool.not_eq_true', decide_eq_false_iff_not] at hb
        rcases hb with hb | hb
        · have : ¬ (c :: r).length ≤ 8 := by rw [← hl]; omega
          simp only [decide_eq_false this, Bool.false_and]
        · have : decide (c ∈ letL) = false := decide_eq_false hb
          simp only [this, Bool.false_and, Bool.and_false]
      · rw [Bool.or_eq_false_iff, decide_eq_false_iff_not, Bool.not_eq_false', decide_eq_true_eq] at hb
        refine g_ret hR (ev_cb (ea1 (evn_map (f := fun x => D.bl (decide (x ∈ letL) || decide (x ∈ digL))) (ei_str (ev_var rfl)) (by decide) (by rw [← str_len]; omega) ⟨trivial, fun _ => trivial⟩ (fun x hx => ev_orV (ev_inS (ev_var rfl) ev_str) fun _ => ev_inS (ev_var rfl) ev_str)).lst) (rc_all (b := false) (bs := s.cps.toList.map fun x => decide (x ∈ letL) || decide (x ∈ digL)) ?_)) ⟨?_, rfl⟩
        · rw [List.map_map]
          exact .vl
        · show Out.ret _ = Out.ret (.bl (isNm s))
          unfold isNm nmL
          rw [hc, List.all_map]
          have h1 : (c :: r).length ≤ 8 := by rw [← hl]; omega
          have h2 : decide (c ∈ letL) = true := decide_eq_true hb.2
          simp only [decide_eq_true h1, h2, Bool.true_and]
          rfl
  · exact q_when (et_or1 ((et_not (et_B (ev_isi (ev_var rfl) (tw_of ht) hk))).to rfl)) (fun _ => g_ret hR ev_bl ⟨by rw [hn], rfl⟩) (fun z => by cases z)
end
def ckOut (K : PySem.W.Frag) (ds : List D) (ka : Cells) : Oc := match ds, ds.find? (fun d => !isNmD d) with
  | [], _ => X0 (He.ga K "EmptyWalk") ka
  | _ :: _, none => Rt .non ka
  | _ :: _, some d => Xt (He.ga K "BadName") [("name", d)] ka
theorem ck_ok {K : PySem.W.Frag} {ds : List D} {ka : Cells} (h0 : ds ≠ []) (h : ∀ d ∈ ds, isNmD d = true) : ckOut K ds ka = Rt .non ka := by
  unfold ckOut
  rw [find_none (p := fun d => !isNmD d) fun e he => by rw [h e he]; rfl]
  cases ds with
  | nil => exact absurd rfl h0
  | cons d r => rfl
theorem ck_bad {K : PySem.W.Frag} {ds : List D} {d : D} {ka : Cells} (h : ds.find? (fun d => !isNmD d) = some d) : ckOut K ds ka = Xt (He.ga K "BadName") [("name", d)] ka := by
  unfold ckOut
  rw [h]
  cases ds with
  | nil => cases h
  | cons d r => rfl
def ct_check_lanes (K : PySem.W.Frag) : Ct := Ct1 fun a ka out => ∃ t ds b, Lk ka a t ds b ∧ SqF b ds ∧ (∀ d ∈ ds, nmOk d) ∧ out = ckOut K ds ka
section
variable {P : Program} {w : World} {K : PySem.W.Frag} {mg : Str → Option Value} {base : Heap}
theorem ok_check_lanes (T : Tx K mg) (F_is_name : Fn P w K mg base 4 (He.ga K "is_name") ["word"] (ct_is_name K)) (Z_BadName : Xn P w K mg base (He.ga K "BadName") "name") : Fn P w K mg base 6 (He.ga K "check_lanes") ["lanes"] (ct_check_lanes K) := by
  obtain ⟨fd, F⟩ := T.d_check_lanes
  refine fn_ok F sc_check_lanes (fun _ _ _ _ _ _ us hl => match us, hl with | [_], _ => rfl) ct1_len (fun cdv A outer s H E hr => ⟨_, (pss_cons (ps_if (pt_cmpR (op_eqP (by have := (hr).units; exact this)) (pe_callB call_lenU rfl T.n_len (by decide +kernel) (pa_cons (pv 0) pa_nil)) pe_int (nomark _))
      (pss_one (ps_raise rfl (takes_of rfl rfl rfl rfl) (pmk_zero PySem.F.excBase_ValueError T.x0_EmptyWalk.1 T.g_EmptyWalk.1 T.x0_EmptyWalk.2.1 (raises_own T.x0_EmptyWalk.2.2.1 T.x0_EmptyWalk.2.2.2) rfl)))
      pss_nil)
      (pss_one (ps_for (passes_of rfl) rfl (pi_seq (pv 0)) (pg_name (i := 1) sc_check_lanes.nd rfl (by first | exact Or.inl rfl | exact Or.inr rfl)) (pss_one (ps_if (pt_not (pt_val (pe_call (F_is_name.up (by decide)).ok hr rfl T.g_is_name.1 T.g_is_name.2 (F_is_name.up (by decide)).bn .nil (pass_own rfl rfl rfl rfl) (pa_cons (pv 1) pa_nil))))
      (pss_one (ps_raise rfl (takes_of rfl rfl rfl rfl) (pmk_oex Z_BadName.xc.oex Z_BadName.all.1 Z_BadName.all.2.1 Z_BadName.all.2.2.1 (hr.mono (by decide)) Z_BadName.all.2.2.2 .nil passes_no rfl T.g_BadName.1 (pa_cons (pv 1) pa_nil))))
      pss_nil))))), fun ws ka out B F0 Q hC hR hX => ?_⟩)
  obtain ⟨a, rfl, t, ds, b, l, hf, hd, rfl⟩ := hC
  cases ds with
  | nil => exact q_when ((et_test (ev_eqI (ev_len (ev_var rfl) l) ev_int)).to (b := true) rfl) (fun _ => g_raise0 hX ⟨rfl, rfl⟩) (fun z => by cases z)
  | cons d0 ds0 =>
    refine q_when ((et_test (ev_eqI (ev_len (ev_var rfl) l) ev_int)).to (b := false) ?_) (fun z => by cases z) (fun _ => ?_)
    · refine beq_eq_false_iff_ne.mpr fun z => ?_
      rw [List.length_cons] at z
      omega
    generalize hds : d0 :: ds0 = ds at *
    refine g_forn (ei_seq (ev_var rfl) l) (fun i ro2 ka2 => (∃ v, ro2 = [some a, v]) ∧ ka2 = ka ∧ ∀ d ∈ ds.take i, isNmD d = true) ⟨⟨none, rfl⟩, rfl, fun d h => by simp at h⟩ (fun i ro2 ka2 ⟨_, e, _⟩ => e ▸ l.stay) (fun i w2 ro2 ka2 ta' hw ⟨⟨v, e1⟩, e2, e3⟩ => ?_) (fun ro2 ka2 ta' ⟨⟨v, e1⟩, e2, e3⟩ _ => ?_)
    · subst e1 e2
      rw [List.getElem?_map] at hw
      cases hx : ds[i]? with
      | none => rw [hx] at hw; cases hw
      | some d =>
        rw [hx] at hw
        have hm : d ∈ ds := List.mem_of_getElem? hx
        have hw2 : part b d = w2 := by cases hw; rfl
        rw [part_of hf hm] at hw2
        subst hw2
        refine g_if (et_not (et_B (ev_callP (ea1 (ev_var rfl)) ⟨_, rfl, d, rfl, hd d hm, rfl, rfl⟩))) (fun hb => g_raise1 hX (ea1 (ev_var rfl)) Z_BadName.xc.oex Z_BadName.no ?_) (fun hb => g_next (g_jp ⟨⟨_, rfl⟩, rfl, fun e he => ?_⟩))
        · rw [ck_bad (find_first (p := fun d => !isNmD d) (fun e he => by rw [e3 e he]; rfl) hx hb)]
          exact ⟨rfl, rfl⟩
        · rw [take_succ_some hx] at he
          rcases List.mem_append.mp he with he | he
          · exact e3 e he
          · rw [List.mem_singleton.mp he]
            simpa using hb
    · subst e1 e2
      rw [List.length_map, List.take_length] at e3
      refine g_end hR ?_
      rw [ck_ok (by rw [← hds]; simp) e3]
      exact ⟨rfl, rfl⟩
end
def ct_crossed (K : PySem.W.Frag) : Ct := Ct2 fun a b ka out => ∃ xs ys : List Nat, a = .val (.lst (nmD xs)) ∧ b = .val (.lst (nmD ys)) ∧ xs.length * ys.length < 100000 ∧ ka = [] ∧ out = Rt (.lst ((crN xs ys).map prD)) []
section
variable {P : Program} {w : World} {K : PySem.W.Frag} {mg : Str → Option Value} {base : Heap}
theorem ok_crossed (T : Tx K mg) : Fn P w K mg base 4 (He.ga K "crossed") ["one", "two"] (ct_crossed K) := by
  obtain ⟨fd, F⟩ := T.d_crossed
  refine fn_ok F sc_crossed (fun _ _ _ _ _ _ us hl => match us, hl with | [_, _], _ => rfl) ct2_len (fun cdv A outer s H E hr => ⟨_, (pss_one (ps_ret (pe_lc2 (own := [("first", 2), ("second", 3)]) (vs1 := [3]) (tt := tYes) (wi1 := (iSeq K (tVar 1))) (tt1 := tYes) (te := (tTup (tCons (tVar 2) (tCons (tVar 3) tNil)))) rfl sc_crossed.nd (pi_seq (pv 0)) (blk_ok ["one", "two", "first", "second"] (defScope s_crossed) rfl rfl (by decide +kernel)) (by decide) (fun _ _ _ _ _ => (pg_name (i := 2) sc_crossed.nd rfl (by first | exact Or.inl rfl | exact Or.inr rfl))) (fun _ _ _ _ _ => pts_nil) (fun _ _ _ _ _ => (pi_seq (pv 1))) (fun _ _ _ _ _ => (pg_name (i := 3) sc_crossed.nd rfl (by first | exact Or.inl rfl | exact Or.inr rfl))) (fun _ _ _ _ _ => pts_nil) (fun _ _ _ _ _ => (pe_tup (pa_cons (pv 2) (pa_cons (pv 3) pa_nil))))))), fun ws ka out B F0 Q hC hR hX => ?_⟩)
  obtain ⟨a, b, rfl, xs, ys, rfl, rfl, hz, rfl, rfl⟩ := hC
  refine g_ret hR ((evn_lc2 (xs := xs) (ys := ys) (f := fun n : Nat => .val (.int (n : Int))) (f2 := fun n : Nat => .val (.int (n : Int))) (d := fun x y => prD (x, y)) (ei_map (ts := xs) (f := fun n : Nat => D.int (n : Int)) (ev_var rfl)) (by decide) hz (fun x k => ei_map (ts := ys) (f := fun n : Nat => D.int (n : Int)) (ev_var rfl)) (fun x y k => ev_tup (ds := [.int (x : Int), .int (y : Int)]) (ea2 (ev_var rfl) (ev_var rfl)) (Nat.le_of_ble_eq_true rfl))).lst.to ?_) ⟨rfl, rfl⟩
  unfold crN
  rw [List.map_flatMap]
  congr 3
  funext x
  rw [List.map_map]
  rfl
end
def ct_read_tree (d : Nat) (K : PySem.W.Frag) : Ct := Ct2 fun a b ka out => ∃ (t : Tr) (s : Nat), a = .val (t.d false) ∧ b = .val (.int (s : Int)) ∧ t.dep < d ∧ t.sm ∧ ka = [] ∧ out = Rt (rdT (mcT t s)) []
theorem ct_read_tree_zero (K : PySem.W.Frag) : ∀ ws ka out, ¬ ct_read_tree 0 K ws ka out := fun ws ka out ⟨_, _, _, t, s, _, _, hd, _⟩ => absurd hd (Nat.not_lt_zero _)
section
variable {P : Program} {w : World} {K : PySem.W.Frag} {mg : Str → Option Value} {base : Heap}
theorem ok_read_tree (T : Tx K mg) (F_crossed : Fn P w K mg base 4 (He.ga K "crossed") ["one", "two"] (ct_crossed K)) : ∀ d : Nat, Fn P w K mg base (2 * d + 6) (He.ga K "read_tree") ["tree", "start"] (ct_read_tree d K) := by
  obtain ⟨fd, F⟩ := T.d_read_tree
  intro d
  induction d with
  | zero => exact fn_vac F sc_read_tree (fun _ _ _ _ _ _ us hl => match us, hl with | [_, _], _ => rfl) (ct_read_tree_zero K)
  | succ d F_read_tree => ?_
  refine fn_ok F sc_read_tree (fun _ _ _ _ _ _ us hl => match us, hl with | [_, _], _ => rfl) ct2_len (fun cdv A outer s H E hr => ⟨_, (pss_cons (ps_if (PW.pt (pw_or (pt_cmpR (op_eqP (by have := (hr).units; exact this)) (pe_ix ix_seq (pv 0) pe_int fun _ _ => rfl) pe_str (nomark _)) (pw_or1 (pt_cmpR (op_eqP (by have := (hr).units; exact this)) (pe_ix ix_seq (pv 0) pe_int fun _ _ => rfl) pe_str (nomark _)))))
      (pss_one (ps_ret (pe_tup (pa_cons (pe_lst (pa_cons (pe_tup (pa_cons (pe_cmpR (op_eqP (by have := (hr).units; exact this)) (pe_ix ix_seq (pv 0) pe_int fun _ _ => rfl) pe_str (nomark _)) (pa_cons (pe_ix ix_seq (pv 0) pe_int fun _ _ => rfl) pa_nil))) pa_nil)) (pa_cons (pe_lst (pa_cons (pv 1) pa_nil)) (pa_cons (pe_lst (pa_cons (pv 1) pa_nil)) (pa_cons (pe_lst pa_nil) (pa_cons pe_bl pa_nil))))))))
      pss_nil)
      (pss_cons (ps_set (i := 2) sc_read_tree.nd rfl (by first | exact Or.inl rfl | exact Or.inr rfl) (pe_call (F_read_tree.up (by omega)).ok hr rfl T.g_read_tree.1 T.g_read_tree.2 (F_read_tree.up (by omega)).bn .nil (pass_own rfl rfl rfl rfl) (pa_cons (pe_ix ix_seq (pv 0) pe_int fun _ _ => rfl) (pa_cons (pv 1) pa_nil))))
      (pss_cons (ps_if (pt_cmpR (op_eqP (by have := (hr).units; exact this)) (pe_ix ix_seq (pv 0) pe_int fun _ _ => rfl) pe_str (nomark _))
      (pss_one (ps_ret (pe_tup (pa_cons (pe_ix ix_seq (pv 2) pe_int fun _ _ => rfl) (pa_cons (pe_ix ix_seq (pv 2) pe_int fun _ _ => rfl) (pa_cons (pe_ix ix_seq (pv 2) pe_int fun _ _ => rfl) (pa_cons (pe_op op_addU (pe_ix ix_seq (pv 2) pe_int fun _ _ => rfl) (pe_call (F_crossed.up (by omega)).ok hr rfl T.g_crossed.1 T.g_crossed.2 (F_crossed.up (by omega)).bn .nil (pass_own rfl rfl rfl rfl) (pa_cons (pe_ix ix_seq (pv 2) pe_int fun _ _ => rfl) (pa_cons (pe_ix ix_seq (pv 2) pe_int fun _ _ => rfl) pa_nil)))) (pa_cons pe_bl pa_nil))))))))
      pss_nil)
      (pss_cons (ps_if (pt_cmpR (op_eqP (by have := (hr).units; exact this)) (pe_ix ix_seq (pv 0) pe_int fun _ _ => rfl) pe_str (nomark _))
      (pss_one (ps_ret (pe_tup (pa_cons (pe_ix ix_seq (pv 2) pe_int fun _ _ => rfl) (pa_cons (pe_ix ix_seq (pv 2) pe_int fun _ _ => rfl) (pa_cons (pe_ix ix_seq (pv 2) pe_int fun _ _ => rfl) (pa_cons (pe_ix ix_seq (pv 2) pe_int fun _ _ => rfl) (pa_cons pe_bl pa_nil))))))))
      pss_nil)
      (pss_cons (ps_set (i := 3) sc_read_tree.nd rfl (by first | exact Or.inl rfl | exact Or.inr rfl) (pe_call (F_read_tree.up (by omega)).ok hr rfl T.g_read_tree.1 T.g_read_tree.2 (F_read_tree.up (by omega)).bn .nil (pass_own rfl rfl rfl rfl) (pa_cons (pe_ix ix_seq (pv 0) pe_int fun _ _ => rfl) (pa_cons (pe_op op_addU (pv 1) (pe_callB call_lenU rfl T.n_len (by decide +kernel) (pa_cons (pe_ix ix_seq (pv 2) pe_int fun _ _ => rfl) pa_nil))) pa_nil))))
      (pss_cons (ps_if (pt_cmpR (op_eqP (by have := (hr).units; exact this)) (pe_ix ix_seq (pv 0) pe_int fun _ _ => rfl) pe_str (nomark _))
      (pss_one (ps_ret (pe_tup (pa_cons (pe_op op_addU (pe_ix ix_seq (pv 2) pe_int fun _ _ => rfl) (pe_ix ix_seq (pv 3) pe_int fun _ _ => rfl)) (pa_cons (pe_op op_addU (pe_ix ix_seq (pv 2) pe_int fun _ _ => rfl) (pe_ix ix_seq (pv 3) pe_int fun _ _ => rfl)) (pa_cons (pe_op op_addU (pe_ix ix_seq (pv 2) pe_int fun _ _ => rfl) (pe_ix ix_seq (pv 3) pe_int fun _ _ => rfl)) (pa_cons (pe_op op_addU (pe_ix ix_seq (pv 2) pe_int fun _ _ => rfl) (pe_ix ix_seq (pv 3) pe_int fun _ _ => rfl)) (pa_cons (pe_or (pe_ix ix_seq (pv 2) pe_int fun _ _ => rfl) (pe_one (pe_ix ix_seq (pv 3) pe_int fun _ _ => rfl))) pa_nil))))))))
      pss_nil)
      (pss_cons (ps_set (i := 4) sc_read_tree.nd rfl (by first | exact Or.inl rfl | exact Or.inr rfl) (pe_ifExp (pt_val (pe_ix ix_seq (pv 2) pe_int fun _ _ => rfl)) (pe_op op_addU (pe_ix ix_seq (pv 2) pe_int fun _ _ => rfl) (pe_ix ix_seq (pv 3) pe_int fun _ _ => rfl)) (pe_ix ix_seq (pv 2) pe_int fun _ _ => rfl)))
      (pss_cons (ps_set (i := 5) sc_read_tree.nd rfl (by first | exact Or.inl rfl | exact Or.inr rfl) (pe_ifExp (pt_val (pe_ix ix_seq (pv 3) pe_int fun _ _ => rfl)) (pe_op op_addU (pe_ix ix_seq (pv 2) pe_int fun _ _ => rfl) (pe_ix ix_seq (pv 3) pe_int fun _ _ => rfl)) (pe_ix ix_seq (pv 3) pe_int fun _ _ => rfl)))
      (pss_one (ps_ret (pe_tup (pa_cons (pe_op op_addU (pe_ix ix_seq (pv 2) pe_int fun _ _ => rfl) (pe_ix ix_seq (pv 3) pe_int fun _ _ => rfl)) (pa_cons (pv 4) (pa_cons (pv 5) (pa_cons (pe_op op_addU (pe_op op_addU (pe_ix ix_seq (pv 2) pe_int fun _ _ => rfl) (pe_ix ix_seq (pv 3) pe_int fun _ _ => rfl)) (pe_call (F_crossed.up (by omega)).ok hr rfl T.g_crossed.1 T.g_crossed.2 (F_crossed.up (by omega)).bn .nil (pass_own rfl rfl rfl rfl) (pa_cons (pe_ix ix_seq (pv 2) pe_int fun _ _ => rfl) (pa_cons (pe_ix ix_seq (pv 3) pe_int fun _ _ => rfl) pa_nil)))) (pa_cons (pe_and (pe_ix ix_seq (pv 2) pe_int fun _ _ => rfl) (pe_one (pe_ix ix_seq (pv 3) pe_int fun _ _ => rfl))) pa_nil)))))))))))))))), fun ws ka out B F0 Q hC hR hX => ?_⟩)
  obtain ⟨a, b, rfl, t, s, rfl, rfl, hd, hs, rfl, rfl⟩ := hC
  cases t with
  | «at» k ns =>
    refine q_when (b := true) ((et_or (et_test (ev_eqS (ev_ixV (ev_var rfl) ev_int .vt at0) ev_str)) (fun _ => et_test (ev_eqS (ev_ixV (ev_var rfl) ev_int .vt at0) ev_str))).to (by cases k <;> rfl)) (fun _ => ?_) (fun z => by cases z)
    refine g_ret hR (ev_tup (ds := [.lst [atD (k, ns)], .lst (nmD [s]), .lst (nmD [s]), .lst [], .bl false]) (ea_cons (evn_lst (ds := [atD (k, ns)]) (ea1 (ev_tup (ds := [.bl k, .tup (stD ns)]) (ea2 ((ev_eqS (ev_ixV (ev_var rfl) ev_int .vt at0) ev_str).to (by cases k <;> rfl)) (ev_ixV (ev_var rfl) ev_int .vt (atI_nat (j := 1) rfl))) (Nat.le_of_ble_eq_true rfl))) (Nat.le_of_ble_eq_true rfl)).lst (ea_cons (evn_lst (ds := nmD [s]) (ea1 (ev_var rfl)) (Nat.le_of_ble_eq_true rfl)).lst (ea_cons (evn_lst (ds := nmD [s]) (ea1 (ev_var rfl)) (Nat.le_of_ble_eq_true rfl)).lst (ea_cons (evn_lst (ds := []) ea_nil (Nat.le_of_ble_eq_true rfl)).lst (ea1 ev_bl))))) (Nat.le_of_ble_eq_true rfl)) ⟨rfl, rfl⟩
  | rep a =>
    have f := hs.2 s
    have fa := hs.1.fits s
    have hda : a.dep < d := by have : a.dep + 1 < d + 1 := hd; omega
    refine q_when (b := false) ((et_or (et_test (ev_eqS (ev_ixV (ev_var rfl) ev_int .vt at0) ev_str)) (fun _ => et_test (ev_eqS (ev_ixV (ev_var rfl) ev_int .vt at0) ev_str))).to rfl) (fun z => by cases z) (fun _ => ?_)
    refine q_asg (w := .val (rdT (mcT a s))) (ev_callP (ea2 (ev_ixV (ev_var rfl) ev_int .vt (atI_nat (j := 1) rfl)) (ev_var rfl)) ⟨_, _, rfl, a, s, rfl, rfl, hda, hs.1, rfl, rfl⟩) ?_
    refine q_when (b := true) ((et_test (ev_eqS (ev_ixV (ev_var rfl) ev_int .vt at0) ev_str)).to rfl) (fun _ => ?_) (fun z => by cases z)
    have fp := f.p
    have hm : (mcT (.rep a) s).pr = (mcT a s).pr ++ crN (mcT a s).la (mcT a s).fi := rfl
    rw [hm, List.length_append] at fp
    have i1 : atI [D.lst ((mcT a s).at_.map atD), .lst (nmD (mcT a s).fi), .lst (nmD (mcT a s).la), .lst ((mcT a s).pr.map prD), .bl (mcT a s).op] 1 = some (.lst (nmD (mcT a s).fi)) := atI_nat (j := 1) rfl
    have i2 : atI [D.lst ((mcT a s).at_.map atD), .lst (nmD (mcT a s).fi), .lst (nmD (mcT a s).la), .lst ((mcT a s).pr.map prD), .bl (mcT a s).op] 2 = some (.lst (nmD (mcT a s).la)) := atI_nat (j := 2) rfl
    have i3 : atI [D.lst ((mcT a s).at_.map atD), .lst (nmD (mcT a s).fi), .lst (nmD (mcT a s).la), .lst ((mcT a s).pr.map prD), .bl (mcT a s).op] 3 = some (.lst ((mcT a s).pr.map prD)) := atI_nat (j := 3) rfl
    refine g_ret hR ((ev_tup (ds := [.lst ((mcT a s).at_.map atD), .lst (nmD (mcT a s).fi), .lst (nmD (mcT a s).la), .lst ((mcT a s).pr.map prD ++ (crN (mcT a s).la (mcT a s).fi).map prD), .bl true]) (ea_cons (ev_ixV (ev_var rfl) ev_int .vt at0) (ea_cons (ev_ixV (ev_var rfl) ev_int .vt i1) (ea_cons (ev_ixV (ev_var rfl) ev_int .vt i2) (ea_cons (ev_catL (ev_ixV (ev_var rfl) ev_int .vt i3) (ev_callP (ea2 (ev_ixV (ev_var rfl) ev_int .vt i2) (ev_ixV (ev_var rfl) ev_int .vt i1)) ⟨_, _, rfl, _, _, rfl, rfl, ?h1, rfl, rfl⟩) ?h2) (ea1 ev_bl))))) (Nat.le_of_ble_eq_true rfl)).to ?h3) ⟨rfl, rfl⟩
    case h1 =>
      rw [crN_len] at fp
      omega
    case h2 =>
      rw [List.length_map, List.length_map]
      omega
    case h3 =>
      rw [← List.map_append]
      rfl
  | opt a =>
    have hda : a.dep < d := by have : a.dep + 1 < d + 1 := hd; omega
    refine q_when (b := false) ((et_or (et_test (ev_eqS (ev_ixV (ev_var rfl) ev_int .vt at0) ev_str)) (fun _ => et_test (ev_eqS (ev_ixV (ev_var rfl) ev_int .vt at0) ev_str))).to rfl) (fun z => by cases z) (fun _ => ?_)
    refine q_asg (w := .val (rdT (mcT a s))) (ev_callP (ea2 (ev_ixV (ev_var rfl) ev_int .vt (atI_nat (j := 1) rfl)) (ev_var rfl)) ⟨_, _, rfl, a, s, rfl, rfl, hda, hs.1, rfl, rfl⟩) ?_
    refine q_when (b := false) ((et_test (ev_eqS (ev_ixV (ev_var rfl) ev_int .vt at0) ev_str)).to rfl) (fun z => by cases z) (fun _ => ?_)
    refine q_when (b := true) ((et_test (ev_eqS (ev_ixV (ev_var rfl) ev_int .vt at0) ev_str)).to rfl) (fun _ => ?_) (fun z => by cases z)
    have i0 : atI [D.lst ((mcT a s).at_.map atD), .lst (nmD (mcT a s).fi), .lst (nmD (mcT a s).la), .lst ((mcT a s).pr.map prD), .bl (mcT a s).op] 0 = some (.lst ((mcT a s).at_.map atD)) := atI_nat (j := 0) rfl
    have i1 : atI [D.lst ((mcT a s).at_.map atD), .lst (nmD (mcT a s).fi), .lst (nmD (mcT a s).la), .lst ((mcT a s).pr.map prD), .bl (mcT a s).op] 1 = some (.lst (nmD (mcT a s).fi)) := atI_nat (j := 1) rfl
    have i2 : atI [D.lst ((mcT a s).at_.map atD), .lst (nmD (mcT a s).fi), .lst (nmD (mcT a s).la), .lst ((mcT a s).pr.map prD), .bl (mcT a s).op] 2 = some (.lst (nmD (mcT a s).la)) := atI_nat (j := 2) rfl
    have i3 : atI [D.lst ((mcT a s).at_.map atD), .lst (nmD (mcT a s).fi), .lst (nmD (mcT a s).la), .lst ((mcT a s).pr.map prD), .bl (mcT a s).op] 3 = some (.lst ((mcT a s).pr.map prD)) := atI_nat (j := 3) rfl
    have i4 : atI [D.lst ((mcT a s).at_.map atD), .lst (nmD (mcT a s).fi), .lst (nmD (mcT a s).la), .lst ((mcT a s).pr.map prD), .bl (mcT a s).op] 4 = some (.bl (mcT a s).op) := atI_nat (j := 4) rfl
    exact g_ret hR (ev_tup (ds := [.lst ((mcT a s).at_.map atD), .lst (nmD (mcT a s).fi), .lst (nmD (mcT a s).la), .lst ((mcT a s).pr.map prD), .bl true]) (ea_cons (ev_ixV (ev_var rfl) ev_int .vt i0) (ea_cons (ev_ixV (ev_var rfl) ev_int .vt i1) (ea_cons (ev_ixV (ev_var rfl) ev_int .vt i2) (ea_cons (ev_ixV (ev_var rfl) ev_int .vt i3) (ea1 ev_bl))))) (Nat.le_of_ble_eq_true rfl)) ⟨rfl, rfl⟩
  | either a b =>
    have hda : a.dep < d := by have : max a.dep b.dep + 1 < d + 1 := hd; omega
    have hdb : b.dep < d := by have : max a.dep b.dep + 1 < d + 1 := hd; omega
    have f := hs.2.2 s
    have fa := hs.1.fits s
    have fb := hs.2.1.fits (s + (mcT a s).at_.length)
    refine q_when (b := false) ((et_or (et_test (ev_eqS (ev_ixV (ev_var rfl) ev_int .vt at0) ev_str)) (fun _ => et_test (ev_eqS (ev_ixV (ev_var rfl) ev_int .vt at0) ev_str))).to rfl) (fun z => by cases z) (fun _ => ?_)
    refine q_asg (w := .val (rdT (mcT a s))) (ev_callP (ea2 (ev_ixV (ev_var rfl) ev_int .vt (atI_nat (j := 1) rfl)) (ev_var rfl)) ⟨_, _, rfl, a, s, rfl, rfl, hda, hs.1, rfl, rfl⟩) ?_
    refine q_when (b := false) ((et_test (ev_eqS (ev_ixV (ev_var rfl) ev_int .vt at0) ev_str)).to rfl) (fun z => by cases z) (fun _ => ?_)
    refine q_when (b := false) ((et_test (ev_eqS (ev_ixV (ev_var rfl) ev_int .vt at0) ev_str)).to rfl) (fun z => by cases z) (fun _ => ?_)
    have i0 : atI [D.lst ((mcT a s).at_.map atD), .lst (nmD (mcT a s).fi), .lst (nmD (mcT a s).la), .lst ((mcT a s).pr.map prD), .bl (mcT a s).op] 0 = some (.lst ((mcT a s).at_.map atD)) := atI_nat (j := 0) rfl
    have i1 : atI [D.lst ((mcT a s).at_.map atD), .lst (nmD (mcT a s).fi), .lst (nmD (mcT a s).la), .lst ((mcT a s).pr.map prD), .bl (mcT a s).op] 1 = some (.lst (nmD (mcT a s).fi)) := atI_nat (j := 1) rfl
    have i2 : atI [D.lst ((mcT a s).at_.map atD), .lst (nmD (mcT a s).fi), .lst (nmD (mcT a s).la), .lst ((mcT a s).pr.map prD), .bl (mcT a s).op] 2 = some (.lst (nmD (mcT a s).la)) := atI_nat (j := 2) rfl
    have i3 : atI [D.lst ((mcT a s).at_.map atD), .lst (nmD (mcT a s).fi), .lst (nmD (mcT a s).la), .lst ((mcT a s).pr.map prD), .bl (mcT a s).op] 3 = some (.lst ((mcT a s).pr.map prD)) := atI_nat (j := 3) rfl
    have i4 : atI [D.lst ((mcT a s).at_.map atD), .lst (nmD (mcT a s).fi), .lst (nmD (mcT a s).la), .lst ((mcT a s).pr.map prD), .bl (mcT a s).op] 4 = some (.bl (mcT a s).op) := atI_nat (j := 4) rfl
    refine q_asg (w := .val (rdT (mcT b (s + (mcT a s).at_.length)))) (ev_callP (ea2 (ev_ixV (ev_var rfl) ev_int .vt (atI_nat (j := 2) rfl)) ((ev_addI (ev_var rfl) (ev_len (ev_ixV (ev_var rfl) ev_int .vt i0) .vl)).to (w' := .val (.int ((s + (mcT a s).at_.length : Nat) : Int))) (by rw [List.length_map, Int.natCast_add]))) ⟨_, _, rfl, b, s + (mcT a s).at_.length, rfl, rfl, hdb, hs.2.1, rfl, rfl⟩) ?_
    generalize hm : mcT a s = m at *
    generalize hn : mcT b (s + m.at_.length) = n at *
    have k0 : atI [D.lst (n.at_.map atD), .lst (nmD n.fi), .lst (nmD n.la), .lst (n.pr.map prD), .bl n.op] 0 = some (.lst (n.at_.map atD)) := atI_nat (j := 0) rfl
    have k1 : atI [D.lst (n.at_.map atD), .lst (nmD n.fi), .lst (nmD n.la), .lst (n.pr.map prD), .bl n.op] 1 = some (.lst (nmD n.fi)) := atI_nat (j := 1) rfl
    have k2 : atI [D.lst (n.at_.map atD), .lst (nmD n.fi), .lst (nmD n.la), .lst (n.pr.map prD), .bl n.op] 2 = some (.lst (nmD n.la)) := atI_nat (j := 2) rfl
    have k3 : atI [D.lst (n.at_.map atD), .lst (nmD n.fi), .lst (nmD n.la), .lst (n.pr.map prD), .bl n.op] 3 = some (.lst (n.pr.map prD)) := atI_nat (j := 3) rfl
    have k4 : atI [D.lst (n.at_.map atD), .lst (nmD n.fi), .lst (nmD n.la), .lst (n.pr.map prD), .bl n.op] 4 = some (.bl n.op) := atI_nat (j := 4) rfl
    refine q_when (b := true) ((et_test (ev_eqS (ev_ixV (ev_var rfl) ev_int .vt at0) ev_str)).to rfl) (fun _ => ?_) (fun z => by cases z)
    have fp := f.p
    have e : mcT (.either a b) s = ⟨m.at_ ++ n.at_, m.fi ++ n.fi, m.la ++ n.la, m.pr ++ n.pr, m.op || n.op⟩ := by subst hm hn; rfl
    rw [e] at fp hR
    have fp : (m.pr ++ n.pr).length ≤ 90000 := fp
    rw [List.length_append] at fp
    have z : ∀ xs ys : List Nat, xs.length ≤ 300 → ys.length ≤ 300 → (nmD xs).length + (nmD ys).length ≤ 100000 := fun xs ys h1 h2 => by
      unfold nmD
      rw [List.length_map, List.length_map]
      omega
    refine g_ret hR ((ev_tup (ds := [.lst (m.at_.map atD ++ n.at_.map atD), .lst (nmD m.fi ++ nmD n.fi), .lst (nmD m.la ++ nmD n.la), .lst (m.pr.map prD ++ n.pr.map prD), .bl (m.op || n.op)]) (ea_cons (ev_catL (ev_ixV (ev_var rfl) ev_int .vt i0) (ev_ixV (ev_var rfl) ev_int .vt k0) ?h1) (ea_cons (ev_catL (ev_ixV (ev_var rfl) ev_int .vt i1) (ev_ixV (ev_var rfl) ev_int .vt k1) (z _ _ fa.f fb.f)) (ea_cons (ev_catL (ev_ixV (ev_var rfl) ev_int .vt i2) (ev_ixV (ev_var rfl) ev_int .vt k2) (z _ _ fa.l fb.l)) (ea_cons (ev_catL (ev_ixV (ev_var rfl) ev_int .vt i3) (ev_ixV (ev_var rfl) ev_int .vt k3) ?h2) (ea1 (ev_orV (ev_ixV (ev_var rfl) ev_int .vt i4) (fun _ => (ev_ixV (ev_var rfl) ev_int .vt k4)))))))) (Nat.le_of_ble_eq_true rfl)).to ?h3) ⟨rfl, rfl⟩
    case h1 =>
      have h1 := fa.a
      have h2 := fb.a
      rw [List.length_map, List.length_map]
      omega
    case h2 =>
      rw [List.length_map, List.length_map]
      omega
    case h3 =>
      unfold nmD
      rw [← List.map_append, ← List.map_append, ← List.map_append, ← List.map_append]
      rfl
  | join a b =>
    have hda : a.dep < d := by have : max a.dep b.dep + 1 < d + 1 := hd; omega
    have hdb : b.dep < d := by have : max a.dep b.dep + 1 < d + 1 := hd; omega
    have f := hs.2.2 s
    have fa := hs.1.fits s
    have fb := hs.2.1.fits (s + (mcT a s).at_.length)
    refine q_when (b := false) ((et_or (et_test (ev_eqS (ev_ixV (ev_var rfl) ev_int .vt at0) ev_str)) (fun _ => et_test (ev_eqS (ev_ixV (ev_var rfl) ev_int .vt at0) ev_str))).to rfl) (fun z => by cases z) (fun _ => ?_)
    refine q_asg (w := .val (rdT (mcT a s))) (ev_callP (ea2 (ev_ixV (ev_var rfl) ev_int .vt (atI_nat (j := 1) rfl)) (ev_var rfl)) ⟨_, _, rfl, a, s, rfl, rfl, hda, hs.1, rfl, rfl⟩) ?_
    refine q_when (b := false) ((et_test (ev_eqS (ev_ixV (ev_var rfl) ev_int .vt at0) ev_str)).to rfl) (fun z => by cases z) (fun _ => ?_)
    refine q_when (b := false) ((et_test (ev_eqS (ev_ixV (ev_var rfl) ev_int .vt at0) ev_str)).to rfl) (fun z => by cases z) (fun _ => ?_)
    have i0 : atI [D.lst ((mcT a s).at_.map atD), .lst (nmD (mcT a s).fi), .lst (nmD (mcT a s).la), .lst ((mcT a s).pr.map prD), .bl (mcT a s).op] 0 = some (.lst ((mcT a s).at_.map atD)) := atI_nat (j := 0) rfl
    have i1 : atI [D.lst ((mcT a s).at_.map atD), .lst (nmD (mcT a s).fi), .lst (nmD (mcT a s).la), .lst ((mcT a s).pr.map prD), .bl (mcT a s).op] 1 = some (.lst (nmD (mcT a s).fi)) := atI_nat (j := 1) rfl
    have i2 : atI [D.lst ((mcT a s).at_.map atD), .lst (nmD (mcT a s).fi), .lst (nmD (mcT a s).la), .lst ((mcT a s).pr.map prD), .bl (mcT a s).op] 2 = some (.lst (nmD (mcT a s).la)) := atI_nat (j := 2) rfl
    have i3 : atI [D.lst ((mcT a s).at_.map atD), .lst (nmD (mcT a s).fi), .lst (nmD (mcT a s).la), .lst ((mcT a s).pr.map prD), .bl (mcT a s).op] 3 = some (.lst ((mcT a s).pr.map prD)) := atI_nat (j := 3) rfl
    have i4 : atI [D.lst ((mcT a s).at_.map atD), .lst (nmD (mcT a s).fi), .lst (nmD (mcT a s).la), .lst ((mcT a s).pr.map prD), .bl (mcT a s).op] 4 = some (.bl (mcT a s).op) := atI_nat (j := 4) rfl
    refine q_asg (w := .val (rdT (mcT b (s + (mcT a s).at_.length)))) (ev_callP (ea2 (ev_ixV (ev_var rfl) ev_int .vt (atI_nat (j := 2) rfl)) ((ev_addI (ev_var rfl) (ev_len (ev_ixV (ev_var rfl) ev_int .vt i0) .vl)).to (w' := .val (.int ((s + (mcT a s).at_.length : Nat) : Int))) (by rw [List.length_map, Int.natCast_add]))) ⟨_, _, rfl, b, s + (mcT a s).at_.length, rfl, rfl, hdb, hs.2.1, rfl, rfl⟩) ?_
    generalize hm : mcT a s = m at *
    generalize hn : mcT b (s + m.at_.length) = n at *
    have k0 : atI [D.lst (n.at_.map atD), .lst (nmD n.fi), .lst (nmD n.la), .lst (n.pr.map prD), .bl n.op] 0 = some (.lst (n.at_.map atD)) := atI_nat (j := 0) rfl
    have k1 : atI [D.lst (n.at_.map atD), .lst (nmD n.fi), .lst (nmD n.la), .lst (n.pr.map prD), .bl n.op] 1 = some (.lst (nmD n.fi)) := atI_nat (j := 1) rfl
    have k2 : atI [D.lst (n.at_.map atD), .lst (nmD n.fi), .lst (nmD n.la), .lst (n.pr.map prD), .bl n.op] 2 = some (.lst (nmD n.la)) := atI_nat (j := 2) rfl
    have k3 : atI [D.lst (n.at_.map atD), .lst (nmD n.fi), .lst (nmD n.la), .lst (n.pr.map prD), .bl n.op] 3 = some (.lst (n.pr.map prD)) := atI_nat (j := 3) rfl
    have k4 : atI [D.lst (n.at_.map atD), .lst (nmD n.fi), .lst (nmD n.la), .lst (n.pr.map prD), .bl n.op] 4 = some (.bl n.op) := atI_nat (j := 4) rfl
    refine q_when (b := false) ((et_test (ev_eqS (ev_ixV (ev_var rfl) ev_int .vt at0) ev_str)).to rfl) (fun z => by cases z) (fun _ => ?_)
    have fp := f.p
    have e : mcT (.join a b) s = ⟨m.at_ ++ n.at_, if m.op then m.fi ++ n.fi else m.fi, if n.op then m.la ++ n.la else n.la, m.pr ++ n.pr ++ crN m.la n.fi, m.op && n.op⟩ := by subst hm hn; rfl
    rw [e] at fp hR
    have fp : (m.pr ++ n.pr ++ crN m.la n.fi).length ≤ 90000 := fp
    rw [List.length_append, List.length_append] at fp
    have fc := crN_len m.la n.fi
    have z : ∀ xs ys : List Nat, xs.length ≤ 300 → ys.length ≤ 300 → (nmD xs).length + (nmD ys).length ≤ 100000 := fun xs ys h1 h2 => by
      unfold nmD
      rw [List.length_map, List.length_map]
      omega
    have nap : ∀ xs ys : List Nat, nmD xs ++ nmD ys = nmD (xs ++ ys) := fun xs ys => List.map_append.symm
    refine q_asg (w := .val (.lst (nmD (if m.op then m.fi ++ n.fi else m.fi)))) (ev_if (b := m.op) (et_B (ev_ixV (ev_var rfl) ev_int .vt i4)) (fun o => (ev_catL (ev_ixV (ev_var rfl) ev_int .vt i1) (ev_ixV (ev_var rfl) ev_int .vt k1) (z _ _ fa.f fb.f)).to (by rw [if_pos o, nap])) (fun o => EvD.to (ev_ixV (ev_var rfl) ev_int .vt i1) (by rw [if_neg (by rw [o]; decide)]))) ?_
    refine q_asg (w := .val (.lst (nmD (if n.op then m.la ++ n.la else n.la)))) (ev_if (b := n.op) (et_B (ev_ixV (ev_var rfl) ev_int .vt k4)) (fun o => (ev_catL (ev_ixV (ev_var rfl) ev_int .vt i2) (ev_ixV (ev_var rfl) ev_int .vt k2) (z _ _ fa.l fb.l)).to (by rw [if_pos o, nap])) (fun o => EvD.to (ev_ixV (ev_var rfl) ev_int .vt k2) (by rw [if_neg (by rw [o]; decide)]))) ?_
    refine g_ret hR ((ev_tup (ds := [.lst (m.at_.map atD ++ n.at_.map atD), .lst (nmD (if m.op then m.fi ++ n.fi else m.fi)), .lst (nmD (if n.op then m.la ++ n.la else n.la)), .lst (m.pr.map prD ++ n.pr.map prD ++ (crN m.la n.fi).map prD), .bl (m.op && n.op)]) (ea_cons (ev_catL (ev_ixV (ev_var rfl) ev_int .vt i0) (ev_ixV (ev_var rfl) ev_int .vt k0) ?h1) (ea_cons (ev_var rfl) (ea_cons (ev_var rfl) (ea_cons (ev_catL (ev_catL (ev_ixV (ev_var rfl) ev_int .vt i3) (ev_ixV (ev_var rfl) ev_int .vt k3) ?h2) (ev_callP (ea2 (ev_ixV (ev_var rfl) ev_int .vt i2) (ev_ixV (ev_var rfl) ev_int .vt k1)) ⟨_, _, rfl, _, _, rfl, rfl, ?h4, rfl, rfl⟩) ?h5) (ea1 (ev_andV (ev_ixV (ev_var rfl) ev_int .vt i4) (fun _ => (ev_ixV (ev_var rfl) ev_int .vt k4)))))))) (Nat.le_of_ble_eq_true rfl)).to ?h3) ⟨rfl, rfl⟩
    case h1 =>
      have h1 := fa.a
      have h2 := fb.a
      rw [List.length_map, List.length_map]
      omega
    case h2 =>
      rw [List.length_map, List.length_map]
      omega
    case h3 =>
      rw [← List.map_append, ← List.map_append, ← List.map_append]
      rfl
    case h4 =>
      omega
    case h5 =>
      rw [List.length_append, List.length_map, List.length_map, List.length_map]
      omega
end
/-- a machine -/
abbrev McD (K : PySem.W.Frag) (m : Mc) : D := .ins (He.ga K "Machine") [("atoms", .lst (m.at_.map atD)), ("firsts", .lst (nmD m.fi)), ("lasts", .lst (nmD m.la)), ("pairs", .dit (prsD m.pr)), ("is_optional", .bl m.op)]
def ct_Machine___init (K : PySem.W.Frag) : Ct := Ct6 fun s a b c e f ka out => ∃ p d1 d2 d3 d4 d5, s = .val (.adr p) ∧ a = .val d1 ∧ b = .val d2 ∧ c = .val d3 ∧ e = .val d4 ∧ f = .val d5 ∧ ka = [(p, .ins (He.ga K "Machine") [])] ∧
  out = Rt .non [(p, .ins (He.ga K "Machine") [("atoms", d1), ("firsts", d2), ("lasts", d3), ("pairs", d4), ("is_optional", d5)])]
section
variable {P : Program} {w : World} {K : PySem.W.Frag} {mg : Str → Option Value} {base : Heap}
theorem ok_Machine___init (T : Tx K mg) : Fn P w K mg base 4 (He.ma K (He.ga K "Machine") "__init__") ["self", "atoms", "firsts", "lasts", "pairs", "is_optional"] (ct_Machine___init K) := by
  obtain ⟨fd, F⟩ := T.d_Machine___init
  refine fn_ok F sc_Machine___init (fun _ _ _ _ _ _ us hl => match us, hl with | [_, _, _, _, _, _], _ => rfl) ct6_len (fun cdv A outer s H E hr => ⟨_, (pss_cons (ps_fld (pv 0) (pv 1) rfl)
      (pss_cons (ps_fld (pv 0) (pv 2) rfl)
      (pss_cons (ps_fld (pv 0) (pv 3) rfl)
      (pss_cons (ps_fld (pv 0) (pv 4) rfl)
      (pss_one (ps_fld (pv 0) (pv 5) rfl)))))), fun ws ka out B F0 Q hC hR hX => ?_⟩)
  obtain ⟨s1, a, b, c, e, f, rfl, p, d1, d2, d3, d4, d5, rfl, rfl, rfl, rfl, rfl, rfl, rfl, rfl⟩ := hC
  refine q_fld (j := 0) (a := p) (fs := []) (d := d1) (ev_var rfl) (ev_var rfl) rfl T.cl_Machine T.na_Machine_atoms (show 0 < 900 by decide) ?_
  refine q_fld (j := 0) (a := p) (fs := [("atoms", d1)]) (d := d2) (ev_var rfl) (ev_var rfl) rfl T.cl_Machine T.na_Machine_firsts (show 1 < 900 by decide) ?_
  refine q_fld (j := 0) (a := p) (fs := [("atoms", d1), ("firsts", d2)]) (d := d3) (ev_var rfl) (ev_var rfl) rfl T.cl_Machine T.na_Machine_lasts (show 2 < 900 by decide) ?_
  refine q_fld (j := 0) (a := p) (fs := [("atoms", d1), ("firsts", d2), ("lasts", d3)]) (d := d4) (ev_var rfl) (ev_var rfl) rfl T.cl_Machine T.na_Machine_pairs (show 3 < 900 by decide) ?_
  refine g_fld (j := 0) (a := p) (fs := [("atoms", d1), ("firsts", d2), ("lasts", d3), ("pairs", d4)]) (d := d5) (ev_var rfl) (ev_var rfl) rfl T.cl_Machine T.na_Machine_is_optional (show 4 < 900 by decide) ?_
  exact g_end hR ⟨rfl, rfl⟩
end
def ct_made_machine (K : PySem.W.Frag) : Ct := Ct1 fun a ka out => ∃ t : Tr, a = .val (t.d false) ∧ t.dep < 8 ∧ t.sm ∧ ka = [] ∧ out = Rt (McD K (mcT t 0)) []
section
variable {P : Program} {w : World} {K : PySem.W.Frag} {mg : Str → Option Value} {base : Heap}
theorem ok_made_machine (T : Tx K mg) (F_read_tree : Fn P w K mg base 22 (He.ga K "read_tree") ["tree", "start"] (ct_read_tree 8 K)) (F_Machine___init : Fn P w K mg base 4 (He.ma K (He.ga K "Machine") "__init__") ["self", "atoms", "firsts", "lasts", "pairs", "is_optional"] (ct_Machine___init K)) : Fn P w K mg base 24 (He.ga K "made_machine") ["tree"] (ct_made_machine K) := by
  obtain ⟨fd, F⟩ := T.d_made_machine
  refine fn_ok F sc_made_machine (fun _ _ _ _ _ _ us hl => match us, hl with | [_], _ => rfl) ct1_len (fun cdv A outer s H E hr => ⟨_, (pss_cons (ps_asg (pe_call (F_read_tree.up (by decide)).ok hr rfl T.g_read_tree.1 T.g_read_tree.2 (F_read_tree.up (by decide)).bn .nil (pass_own rfl rfl rfl rfl) (pa_cons (pv 0) (pa_cons pe_int pa_nil))) (pg_tup rfl (pgs_cons (pg_name (i := 1) sc_made_machine.nd rfl (by first | exact Or.inl rfl | exact Or.inr rfl)) (pgs_cons (pg_name (i := 2) sc_made_machine.nd rfl (by first | exact Or.inl rfl | exact Or.inr rfl)) (pgs_cons (pg_name (i := 3) sc_made_machine.nd rfl (by first | exact Or.inl rfl | exact Or.inr rfl)) (pgs_cons (pg_name (i := 4) sc_made_machine.nd rfl (by first | exact Or.inl rfl | exact Or.inr rfl)) (pgs_cons (pg_name (i := 5) sc_made_machine.nd rfl (by first | exact Or.inl rfl | exact Or.inr rfl)) pgs_nil)))))))
      (pss_one (ps_ret (pe_make T.mk_Machine (F_Machine___init.up (by decide)).ok hr rfl T.g_Machine.1 (F_Machine___init.up (by decide)).bn .nil (pass_own rfl rfl rfl rfl) (pa_cons (pv 1) (pa_cons (pv 2) (pa_cons (pv 3) (pa_cons (pe_keysT (v := .bl true) (r := .bool true) (hr).units0 rfl (pv 4) rfl (fun _ _ _ _ q => PyProof.Rows.Constant_bool q) rfl (by kernel_rfl) rfl rfl) (pa_cons (pv 5) pa_nil))))))))), fun ws ka out B F0 Q hC hR hX => ?_⟩)
  obtain ⟨a, rfl, t, rfl, hd, hs, rfl, rfl⟩ := hC
  have f := hs.fits 0
  refine q_asgT (w := .val (rdT (mcT t 0))) (ev_callP (ea2 (ev_var rfl) ev_int) ⟨_, _, rfl, t, 0, rfl, rfl, hd, hs, rfl, rfl⟩) (at_tup rfl (al_cons at_n (al_cons at_n (al_cons at_n (al_cons at_n (al_cons at_n al_nil)))))) ?_
  generalize mcT t 0 = m at *
  refine g_ret hR (evn_make (k1 := []) (k2 := []) (ea_cons (ev_var rfl) (ea_cons (ev_var rfl) (ea_cons (ev_var rfl) (ea_cons (evn_keysT (ps := m.pr) T.np_0 (ev_var rfl) (by have := f.p; omega)).dit (ea1 (ev_var rfl)))))) (fun a => ⟨_, ⟨_, _, _, _, _, _, rfl, a, _, _, _, _, _, rfl, rfl, rfl, rfl, rfl, rfl, rfl, rfl⟩, fun _ _ z => z⟩)).ins ⟨rfl, rfl⟩
end
def ct_Machine_takes (K : PySem.W.Frag) : Ct := Ct3 fun s a l ka out => ∃ (m : Mc) (i : Nat) (p : Bool × List Str) (x : Str), s = .val (McD K m) ∧ a = .val (.int (i : Int)) ∧ l = .val (.str x) ∧ m.at_[i]? = some p ∧ ka = [] ∧ out = Rt (.bl (atB p x)) []
section
variable {P : Program} {w : World} {K : PySem.W.Frag} {mg : Str → Option Value} {base : Heap}
theorem ok_Machine_takes (T : Tx K mg) : Fn P w K mg base 4 (He.ma K (He.ga K "Machine") "takes") ["self", "atom", "lane"] (ct_Machine_takes K) := by
  obtain ⟨fd, F⟩ := T.d_Machine_takes
  refine fn_ok F sc_Machine_takes (fun _ _ _ _ _ _ us hl => match us, hl with | [_, _, _], _ => rfl) ct3_len (fun cdv A outer s H E hr => ⟨_, (pss_cons (ps_asg (pe_ix ix_seq (pe_fld (pv 0) rfl) (pv 1) fun _ _ => rfl) (pg_tup rfl (pgs_cons (pg_name (i := 3) sc_Machine_takes.nd rfl (by first | exact Or.inl rfl | exact Or.inr rfl)) (pgs_cons (pg_name (i := 4) sc_Machine_takes.nd rfl (by first | exact Or.inl rfl | exact Or.inr rfl)) pgs_nil))))
      (pss_one (ps_ret (pe_cmpR (op_eqP (by have := (hr).units; exact this)) (pe_cmpR op_inU (pv 2) (pv 4) (by with_unfolding_all rfl)) (pv 3) (nomark _))))), fun ws ka out B F0 Q hC hR hX => ?_⟩)
  obtain ⟨s1, a, l, rfl, m, i, p, x, rfl, rfl, rfl, hi, rfl, rfl⟩ := hC
  refine q_asgT (w := .val (atD p)) (ev_ixV (ev_fld (ev_var rfl) .v T.cl_Machine T.na_Machine_atoms rfl) (ev_var rfl) .vl (atI_nat (by rw [List.getElem?_map, hi]; rfl))) at_t2 ?_
  exact g_ret hR (ev_eqB (ev_inL (ss := p.2) (ev_var rfl) (ev_var rfl) .vt) (ev_var rfl)) ⟨rfl, rfl⟩
end
def ct_Machine_is_behind (K : PySem.W.Frag) : Ct := Ct3 fun s a b ka out => ∃ (m : Mc) (ps : List Nat) (i : Nat), s = .val (McD K m) ∧ a = .val (.tup (nmD ps)) ∧ b = .val (.int (i : Int)) ∧ ps.length ≤ 1000 ∧ ka = [] ∧ out = Rt (.bl (behM m ps i)) []
section
variable {P : Program} {w : World} {K : PySem.W.Frag} {mg : Str → Option Value} {base : Heap}
theorem ok_Machine_is_behind (T : Tx K mg) : Fn P w K mg base 4 (He.ma K (He.ga K "Machine") "is_behind") ["self", "places", "atom"] (ct_Machine_is_behind K) := by
  obtain ⟨fd, F⟩ := T.d_Machine_is_behind
  refine fn_ok F sc_Machine_is_behind (fun _ _ _ _ _ _ us hl => match us, hl with | [_, _, _], _ => rfl) ct3_len (fun cdv A outer s H E hr => ⟨_, (pss_one (ps_ret (pe_callB (cr_any rfl) rfl T.n_any (by decide +kernel) (pa_cons (pe_lc (te := (tDIn (tTup (tCons (tVar 3) (tCons (tVar 2) tNil))) (tFld K (tVar 0) "pairs"))) (tt := tYes) (own := [("place", 3)]) rfl sc_Machine_is_behind.nd (pi_seq (pv 1)) (blk_ok ["self", "places", "atom", "place"] (defScope s_Machine_is_behind) rfl rfl (by decide +kernel)) (fun _ _ _ _ _ => (pg_name (i := 3) sc_Machine_is_behind.nd rfl (by first | exact Or.inl rfl | exact Or.inr rfl))) (fun _ _ _ _ _ => pts_nil) (fun _ _ _ _ _ => (pe_cmp (pc_din (hu1 hr) (pe_tup (pa_cons (pv 3) (pa_cons (pv 2) pa_nil))) (pe_fld (pv 0) rfl)) (by with_unfolding_all rfl)))) pa_nil)))), fun ws ka out B F0 Q hC hR hX => ?_⟩)
  obtain ⟨s1, a, b, rfl, m, ps, i, rfl, rfl, rfl, hl, rfl, rfl⟩ := hC
  refine g_ret hR ((ev_cb (ea1 (evn_filt_to (ds := ps.map fun p => D.bl (decide ((p, i) ∈ m.pr))) (es := (ps.map fun p => decide ((p, i) ∈ m.pr)).map D.bl) (evn_map (xs := ps) (g := fun n : Nat => W.val (.int (n : Int))) (f := fun p => D.bl (decide ((p, i) ∈ m.pr))) (C := Stay (.val (.tup (nmD ps))) (nmD ps)) (EvI.ws (ei_seq (ds := nmD ps) (ev_var rfl) .vt) (by unfold nmD; rw [List.map_map]; rfl)) (by decide) (by omega) ⟨trivial, fun _ => trivial⟩ (fun p hp => (ev_dinP (p := (p, i)) T.np_0 (ev_tup (ds := [.int (p : Int), .int (i : Int)]) (ea2 (ev_var rfl) (ev_var rfl)) (Nat.le_of_ble_eq_true rfl)) (ev_fld (ev_var rfl) .v T.cl_Machine T.na_Machine_pairs rfl)).to (by rw [prs_in]))) (List.map_map.symm)).lst) (rc_any .vl)).to ?_) ⟨rfl, rfl⟩
  unfold behM
  rw [List.any_map]
  rfl
end
theorem tk_at {m : Mc} {i : Nat} {x : Str} {p : Bool × List Str} (h : m.at_[i]? = some p) : tkM m i x = atB p x := by
  unfold tkM
  rw [h]
theorem at_lt {m : Mc} {i : Nat} (h : i < m.at_.length) : ∃ p, m.at_[i]? = some p := ⟨_, List.getElem?_eq_getElem h⟩
def ct_Machine_after (K : PySem.W.Frag) : Ct := Ct3 fun s a l ka out => ∃ (m : Mc) (ps : List Nat) (x : Str), s = .val (McD K m) ∧ a = .val (.tup (nmD ps)) ∧ l = .val (.str x) ∧ Fits m ∧ ps.length ≤ 1000 ∧ ka = [] ∧ out = Rt (.tup (nmD (afterM m ps x))) []
section
variable {P : Program} {w : World} {K : PySem.W.Frag} {mg : Str → Option Value} {base : Heap}
theorem ok_Machine_after (T : Tx K mg) (F_Machine_takes : Fn P w K mg base 4 (He.ma K (He.ga K "Machine") "takes") ["self", "atom", "lane"] (ct_Machine_takes K)) (F_Machine_is_behind : Fn P w K mg base 4 (He.ma K (He.ga K "Machine") "is_behind") ["self", "places", "atom"] (ct_Machine_is_behind K)) : Fn P w K mg base 6 (He.ma K (He.ga K "Machine") "after") ["self", "places", "lane"] (ct_Machine_after K) := by
  obtain ⟨fd, F⟩ := T.d_Machine_after
  refine fn_ok F sc_Machine_after (fun _ _ _ _ _ _ us hl => match us, hl with | [_, _, _], _ => rfl) ct3_len (fun cdv A outer s H E hr => ⟨_, (pss_cons (ps_set (i := 3) sc_Machine_after.nd rfl (by first | exact Or.inl rfl | exact Or.inr rfl) (pe_callB call_lenU rfl T.n_len (by decide +kernel) (pa_cons (pe_fld (pv 0) rfl) pa_nil)))
      (pss_one (ps_ret (pe_callTy call_tupU rfl T.n_tuple (by decide +kernel) (pa_cons (pe_lc (te := (tVar 4)) (tt := (tAnd (tB (tMeth (He.ga K "Machine") "takes" (spC K (ct_Machine_takes K)) [] (fun _ _ _ => False) (tVar 0) (tCons (tVar 4) (tCons (tVar 2) tNil)))) (tB (tMeth (He.ga K "Machine") "is_behind" (spC K (ct_Machine_is_behind K)) [] (fun _ _ _ => False) (tVar 0) (tCons (tVar 1) (tCons (tVar 4) tNil)))))) (own := [("atom", 4)]) rfl sc_Machine_after.nd (pi_range1 rfl T.n_range (pa_cons (pv 3) pa_nil)) (blk_ok ["self", "places", "lane", "size", "atom"] (defScope s_Machine_after) rfl rfl (by decide +kernel)) (fun _ _ _ _ _ => (pg_name (i := 4) sc_Machine_after.nd rfl (by first | exact Or.inl rfl | exact Or.inr rfl))) (fun _ _ _ _ _ => (pts_one (PW.pt (pw_and (pt_val (pe_meth (pv 0) T.cl_Machine T.me_Machine_takes (F_Machine_takes.up (by decide)).ok hr (F_Machine_takes.up (by decide)).bn .nil passes_no (pa_cons (pv 4) (pa_cons (pv 2) pa_nil)))) (pw_and1 (pt_val (pe_meth (pv 0) T.cl_Machine T.me_Machine_is_behind (F_Machine_is_behind.up (by decide)).ok hr (F_Machine_is_behind.up (by decide)).bn .nil passes_no (pa_cons (pv 1) (pa_cons (pv 4) pa_nil))))))))) (fun _ _ _ _ _ => (pv 4))) pa_nil))))), fun ws ka out B F0 Q hC hR hX => ?_⟩)
  obtain ⟨s1, a, l, rfl, m, ps, x, rfl, rfl, rfl, f, hl, rfl, rfl⟩ := hC
  have fa := f.a
  refine q_asg (w := .val (.int ((m.at_.length : Nat) : Int))) ((ev_len (ev_fld (ev_var rfl) .v T.cl_Machine T.na_Machine_atoms rfl) .vl).to (by rw [List.length_map])) ?_
  exact g_ret hR (ev_cb (ea1 (evn_filt (xs := List.range m.at_.length) (g := fun i : Nat => W.val (.int (i : Int))) (f := fun i : Nat => D.int (i : Int)) (p := fun a => tkM m a x && behM m ps a) (C := fun _ => True) (ei_range1 (m := ((m.at_.length : Nat) : Int)) (ea1 (ev_var rfl)) (by omega) (by omega)) (by decide) (by rw [List.length_range]; omega) ⟨trivial, fun _ => trivial⟩ (fun i hi => by
    obtain ⟨p, hp⟩ := at_lt (m := m) (List.mem_range.mp hi)
    refine et_and ((et_B (ev_methP (ev_var rfl) .v rfl (ea2 (ev_var rfl) (ev_var rfl)) ⟨_, _, _, rfl, m, i, p, x, rfl, rfl, rfl, hp, rfl, rfl⟩)).to (by rw [tk_at hp])) (fun _ => et_B (ev_methP (ev_var rfl) .v rfl (ea2 (ev_var rfl) (ev_var rfl)) ⟨_, _, _, rfl, m, ps, i, rfl, rfl, rfl, hl, rfl, rfl⟩))) (fun i hi _ => ev_var rfl)).lst) (rc_tupL .vl (.inl rfl))) ⟨rfl, rfl⟩
end
def ct_Machine_started (K : PySem.W.Frag) : Ct := Ct2 fun s l ka out => ∃ (m : Mc) (x : Str), s = .val (McD K m) ∧ l = .val (.str x) ∧ Fits m ∧ (∀ a ∈ m.fi, a < m.at_.length) ∧ ka = [] ∧ out = Rt (.tup (nmD (startM m x))) []
section
variable {P : Program} {w : World} {K : PySem.W.Frag} {mg : Str → Option Value} {base : Heap}
theorem ok_Machine_started (T : Tx K mg) (F_Machine_takes : Fn P w K mg base 4 (He.ma K (He.ga K "Machine") "takes") ["self", "atom", "lane"] (ct_Machine_takes K)) : Fn P w K mg base 6 (He.ma K (He.ga K "Machine") "started") ["self", "lane"] (ct_Machine_started K) := by
  obtain ⟨fd, F⟩ := T.d_Machine_started
  refine fn_ok F sc_Machine_started (fun _ _ _ _ _ _ us hl => match us, hl with | [_, _], _ => rfl) ct2_len (fun cdv A outer s H E hr => ⟨_, (pss_one (ps_ret (pe_callTy call_tupU rfl T.n_tuple (by decide +kernel) (pa_cons (pe_lc (te := (tVar 2)) (tt := (tB (tMeth (He.ga K "Machine") "takes" (spC K (ct_Machine_takes K)) [] (fun _ _ _ => False) (tVar 0) (tCons (tVar 2) (tCons (tVar 1) tNil))))) (own := [("atom", 2)]) rfl sc_Machine_started.nd (pi_seq (pe_fld (pv 0) rfl)) (blk_ok ["self", "lane", "atom"] (defScope s_Machine_started) rfl rfl (by decide +kernel)) (fun _ _ _ _ _ => (pg_name (i := 2) sc_Machine_started.nd rfl (by first | exact Or.inl rfl | exact Or.inr rfl))) (fun _ _ _ _ _ => (pts_one (pt_val (pe_meth (pv 0) T.cl_Machine T.me_Machine_takes (F_Machine_takes.up (by decide)).ok hr (F_Machine_takes.up (by decide)).bn .nil passes_no (pa_cons (pv 2) (pa_cons (pv 1) pa_nil)))))) (fun _ _ _ _ _ => (pv 2))) pa_nil)))), fun ws ka out B F0 Q hC hR hX => ?_⟩)
  obtain ⟨s1, l, rfl, m, x, rfl, rfl, f, hr, rfl, rfl⟩ := hC
  have ff := f.f
  exact g_ret hR (ev_cb (ea1 (evn_filt (xs := m.fi) (g := fun i : Nat => W.val (.int (i : Int))) (f := fun i : Nat => D.int (i : Int)) (p := fun a => tkM m a x) (ei_map (ts := m.fi) (f := fun n : Nat => D.int (n : Int)) (ev_fld (ev_var rfl) .v T.cl_Machine T.na_Machine_firsts rfl)) (by decide) (by omega) ⟨trivial, fun _ => trivial⟩ (fun i hi => by
    obtain ⟨p, hp⟩ := at_lt (hr i hi)
    exact (et_B (ev_methP (ev_var rfl) .v rfl (ea2 (ev_var rfl) (ev_var rfl)) ⟨_, _, _, rfl, m, i, p, x, rfl, rfl, rfl, hp, rfl, rfl⟩)).to (by rw [tk_at hp])) (fun i hi _ => ev_var rfl)).lst) (rc_tupL .vl (.inl rfl))) ⟨rfl, rfl⟩
end
def ct_Machine_is_done (K : PySem.W.Frag) : Ct := Ct2 fun s a ka out => ∃ (m : Mc) (ps : List Nat), s = .val (McD K m) ∧ a = .val (.tup (nmD ps)) ∧ ps.length ≤ 1000 ∧ ka = [] ∧ out = Rt (.bl (doneM m ps)) []
section
variable {P : Program} {w : World} {K : PySem.W.Frag} {mg : Str → Option Value} {base : Heap}
theorem ok_Machine_is_done (T : Tx K mg) : Fn P w K mg base 4 (He.ma K (He.ga K "Machine") "is_done") ["self", "places"] (ct_Machine_is_done K) := by
  obtain ⟨fd, F⟩ := T.d_Machine_is_done
  refine fn_ok F sc_Machine_is_done (fun _ _ _ _ _ _ us hl => match us, hl with | [_, _], _ => rfl) ct2_len (fun cdv A outer s H E hr => ⟨_, (pss_one (ps_ret (pe_callB (cr_any rfl) rfl T.n_any (by decide +kernel) (pa_cons (pe_lc (te := (tOp (rInU K) (tVar 2) (tFld K (tVar 0) "lasts"))) (tt := tYes) (own := [("place", 2)]) rfl sc_Machine_is_done.nd (pi_seq (pv 1)) (blk_ok ["self", "places", "place"] (defScope s_Machine_is_done) rfl rfl (by decide +kernel)) (fun _ _ _ _ _ => (pg_name (i := 2) sc_Machine_is_done.nd rfl (by first | exact Or.inl rfl | exact Or.inr rfl))) (fun _ _ _ _ _ => pts_nil) (fun _ _ _ _ _ => (pe_cmpR op_inU (pv 2) (pe_fld (pv 0) rfl) (by with_unfolding_all rfl)))) pa_nil)))), fun ws ka out B F0 Q hC hR hX => ?_⟩)
  obtain ⟨s1, a, rfl, m, ps, rfl, rfl, hl, rfl, rfl⟩ := hC
  refine g_ret hR ((ev_cb (ea1 (evn_filt_to (ds := ps.map fun p => D.bl (decide (p ∈ m.la))) (es := (ps.map fun p => decide (p ∈ m.la)).map D.bl) (evn_map (xs := ps) (g := fun n : Nat => W.val (.int (n : Int))) (f := fun p => D.bl (decide (p ∈ m.la))) (C := Stay (.val (.tup (nmD ps))) (nmD ps)) (EvI.ws (ei_seq (ds := nmD ps) (ev_var rfl) .vt) (by unfold nmD; rw [List.map_map]; rfl)) (by decide) (by omega) ⟨trivial, fun _ => trivial⟩ (fun p hp => ev_inN (ev_var rfl) (ev_fld (ev_var rfl) .v T.cl_Machine T.na_Machine_lasts rfl) .vl)) (List.map_map.symm)).lst) (rc_any .vl)).to ?_) ⟨rfl, rfl⟩
  unfold doneM
  rw [List.any_map]
  rfl
end
def ct_all_names (K : PySem.W.Frag) : Ct := Ct2 fun s a ka out => ∃ m n : Mc, s = .val (McD K m) ∧ a = .val (McD K n) ∧ m.at_.length + n.at_.length ≤ 100 ∧ (∀ p ∈ m.at_ ++ n.at_, p.2.length ≤ 100) ∧ ka = [] ∧
  out = fun o k => k = [] ∧ ∃ c, c ≤ 10000 ∧ o = .ret (.lst (stD (anL (m.at_ ++ n.at_) ++ [aNum c]))) ∧ aNum c ∉ anL (m.at_ ++ n.at_)
theorem flat_few {ps : List (Bool × List Str)} {c : Nat} (h : ∀ p ∈ ps, p.2.length ≤ c) : (ps.flatMap fun p => p.2).length ≤ ps.length * c := by
  induction ps with
  | nil => exact Nat.zero_le _
  | cons p ps ih =>
    have h1 := h p List.mem_cons_self
    have h2 := ih fun q hq => h q (List.mem_cons_of_mem _ hq)
    rw [List.flatMap_cons, List.length_append, List.length_cons, Nat.add_mul, Nat.one_mul]
    omega
section
variable {P : Program} {w : World} {K : PySem.W.Frag} {mg : Str → Option Value} {base : Heap}
theorem ok_all_names (T : Tx K mg) : Fn P w K mg base 4 (He.ga K "all_names") ["one", "two"] (ct_all_names K) := by
  obtain ⟨fd, F⟩ := T.d_all_names
  refine fn_ok F sc_all_names (fun _ _ _ _ _ _ us hl => match us, hl with | [_, _], _ => rfl) ct2_len (fun cdv A outer s H E hr => ⟨_, (pss_cons (ps_set (i := 2) sc_all_names.nd rfl (by first | exact Or.inl rfl | exact Or.inr rfl) (pe_lst pa_nil))
      (pss_cons (ps_for (passes_of rfl) rfl (pi_seq (pe_op op_addU (pe_fld (pv 0) rfl) (pe_fld (pv 1) rfl))) (pg_tup rfl (pgs_cons (pg_name (i := 3) sc_all_names.nd rfl (by first | exact Or.inl rfl | exact Or.inr rfl)) (pgs_cons (pg_name (i := 4) sc_all_names.nd rfl (by first | exact Or.inl rfl | exact Or.inr rfl)) pgs_nil))) (pss_one (ps_set (i := 2) sc_all_names.nd rfl (by first | exact Or.inl rfl | exact Or.inr rfl) (pe_op op_addU (pv 2) (pe_lc (te := (tVar 5)) (tt := (tTest (tOp (rNiU K) (tVar 5) (tVar 2)))) (own := [("name", 5)]) rfl sc_all_names.nd (pi_seq (pv 4)) (blk_ok ["one", "two", "names", "is_any", "known", "name", "number"] (defScope s_all_names) rfl rfl (by decide +kernel)) (fun _ _ _ _ _ => (pg_name (i := 5) sc_all_names.nd rfl (by first | exact Or.inl rfl | exact Or.inr rfl))) (fun _ _ _ _ _ => (pts_one (pt_cmpR op_niU (pv 5) (pv 2) (by with_unfolding_all rfl)))) (fun _ _ _ _ _ => (pv 5)))))))
      (pss_cons (ps_set (i := 6) sc_all_names.nd rfl (by first | exact Or.inl rfl | exact Or.inr rfl) pe_int)
      (pss_cons (ps_while (passes_of rfl) (pt_cmpR op_inU (pe_op op_addU pe_str (pe_callTy call_strI rfl T.n_str (by decide +kernel) (pa_cons (pv 6) pa_nil))) (pv 2) (by with_unfolding_all rfl)) (pss_one (ps_set (i := 6) sc_all_names.nd rfl (by first | exact Or.inl rfl | exact Or.inr rfl) (pe_op op_addU (pv 6) pe_int))))
      (pss_one (ps_ret (pe_op op_addU (pv 2) (pe_lst (pa_cons (pe_op op_addU pe_str (pe_callTy call_strI rfl T.n_str (by decide +kernel) (pa_cons (pv 6) pa_nil))) pa_nil))))))))), fun ws ka out B F0 Q hC hR hX => ?_⟩)
  obtain ⟨s1, a, rfl, m, n, rfl, rfl, hl, hp, rfl, rfl⟩ := hC
  have cM := T.cl_Machine
  have few : ∀ i, (anL ((m.at_ ++ n.at_).take i)).length ≤ 10000 := fun i => by
    have h1 := an_len ((m.at_ ++ n.at_).take i)
    have h2 := flat_few (ps := (m.at_ ++ n.at_).take i) (c := 100) fun p h => hp p (List.mem_of_mem_take h)
    have h3 : ((m.at_ ++ n.at_).take i).length ≤ 100 := by
      have := List.length_take_le' i (m.at_ ++ n.at_)
      rw [List.length_append] at this
      omega
    omega
  refine q_asg (w := .val (.lst [])) (evn_lst (ds := []) ea_nil (by decide)).lst ?_
  refine q_forT (ei_seq (t := false) (b := false) (ds := (m.at_ ++ n.at_).map atD) ((ev_catL (ev_fld (d := .lst (m.at_.map atD)) (ev_var rfl) .v cM T.na_Machine_atoms rfl) (ev_fld (d := .lst (n.at_.map atD)) (ev_var rfl) .v cM T.na_Machine_atoms rfl) (by rw [List.length_map, List.length_map]; omega)).to (by rw [List.map_append])) .vl)
    (fun i ro ka => ∃ (v3 v4 v5 v6 : Option W), ro = [some (.val (McD K m)), some (.val (McD K n)), some (.val (.lst (stD (anL ((m.at_ ++ n.at_).take i))))), v3, v4, v5, v6] ∧ ka = [])
    ⟨_, _, _, _, rfl, rfl⟩ (fun i ro ka _ => trivial) (fun i x ro2 ka2 ta' hx ⟨v3, v4, v5, v6, e1, e2⟩ => ?_) (fun ro2 ka2 ta' ⟨v3, v4, v5, v6, e1, e2⟩ _ => ?_)
  · subst e1 e2
    rw [List.map_map, List.getElem?_map] at hx
    obtain ⟨p, hpx, rfl⟩ := Option.map_eq_some_iff.mp hx
    have hpm := hp p (List.mem_of_getElem? hpx)
    refine ⟨_, at_t2, ?_⟩
    refine g_asg (w := .val (.lst (stD (anL ((m.at_ ++ n.at_).take (i + 1)))))) ((ev_catL (ev_var rfl) (evn_filt (xs := p.2) (g := fun s => W.val (.str s)) (f := fun s => D.str s) (p := fun o => !decide (o ∈ anL ((m.at_ ++ n.at_).take i))) (ei_strsL (t := true) (b := false) (ev_var rfl) .vt) (by decide) (by omega) ⟨trivial, fun _ => trivial⟩ (fun o ho => et_test (ev_niL (ev_var rfl) (ev_var rfl) .vl)) (fun o ho _ => ev_var rfl)).lst (by
      have h1 := few i
      have h2 := List.length_filter_le (fun o => !decide (o ∈ anL ((m.at_ ++ n.at_).take i))) p.2
      rw [stD_len, List.length_map]
      omega)).to (by rw [take_succ_some hpx, an_snoc, ← stD_app]; rfl)) (g_jp ⟨_, _, _, _, rfl, rfl⟩)
  subst e1 e2
  rw [List.length_map, List.length_map, List.take_length]
  have few2 := few (m.at_ ++ n.at_).length
  rw [List.take_length] at few2
  generalize anL (m.at_ ++ n.at_) = N at *
  refine q_asg (ev_int (i := 0)) ?_
  refine q_while (fun mm ro ka => ∃ (c : Nat), ro = [some (.val (McD K m)), some (.val (McD K n)), some (.val (.lst (stD N))), v3, v4, v5, some (.val (.int (c : Int)))] ∧ ka = [] ∧ c ≤ 10000 ∧ (∀ j, j < c → aNum j ∈ N) ∧ mm = N.length - c)
    (N.length - 0) ⟨0, rfl, rfl, Nat.zero_le _, fun j h => absurd h (Nat.not_lt_zero _), rfl⟩ (fun mm ro2 ka2 ⟨c, e1, e2, hc, hj, hm⟩ => ?_)
  subst e1 e2
  have nf := num_few (i := c) (by omega)
  have nm : ∀ {E : XK}, EvD K (tOp (rAddU K) (tC (.str "a")) (tCB rStrI (tCons (tVar 6) tNil))) [some (.val (McD K m)), some (.val (McD K n)), some (.val (.lst (stD N))), v3, v4, v5, some (.val (.int (c : Int)))] [] (.val (.str (aNum c))) [] := fun {E} => ev_addS ev_str (ev_strI (ev_var rfl) (log_few (by omega))) (by
    have e : ("a" : Str).length = 1 := by decide +kernel
    rw [e]
    show 1 + (Str.ofString (toString ((c : Nat) : Int))).length ≤ 100000
    omega)
  refine ⟨decide (aNum c ∈ N), _, et_test (ev_inL (nm (E := E)) (ev_var rfl) .vl), fun hb => ?_, fun hb => ?_⟩
  · rw [decide_eq_true_eq] at hb
    have all : ∀ j, j < c + 1 → aNum j ∈ N := fun j h => by
      rcases Nat.lt_or_ge j c with g | g
      · exact hj j g
      · have : j = c := by omega
        subst this
        exact hb
    have := aNum_free (n := c + 1) (by omega) all
    exact g_asg (w := .val (.int ((c + 1 : Nat) : Int))) ((ev_addI (ev_var rfl) ev_int).to (by push_cast; rfl)) (g_jp ⟨N.length - (c + 1), by omega, c + 1, rfl, rfl, by omega, all, rfl⟩)
  · rw [decide_eq_false_iff_not] at hb
    exact g_ret hR ((ev_catL (ev_var rfl) (evn_lst (ds := [.str (aNum c)]) (ea1 (nm (E := E))) (show 1 ≤ 100000 by decide)).lst (by rw [stD_len]; show _ + 1 ≤ _; omega)).to (by rw [← stD_app]; rfl)) ⟨rfl, c, hc, rfl, hb⟩
end
theorem after_len {m : Mc} {ps : List Nat} {x : Str} (f : Fits m) : (afterM m ps x).length ≤ 1000 := by
  have h := List.length_filter_le (fun a => tkM m a x && behM m ps a) (List.range m.at_.length)
  rw [List.length_range] at h
  have := f.a
  show (List.filter _ _).length ≤ 1000
  omega
theorem start_len {m : Mc} {x : Str} (f : Fits m) : (startM m x).length ≤ 1000 := by
  have h := List.length_filter_le (fun a => tkM m a x) m.fi
  have := f.f
  show (List.filter _ _).length ≤ 1000
  omega
theorem run_len {m : Mc} (f : Fits m) : ∀ (r : List Str) (ps : List Nat), ps.length ≤ 1000 → (r.foldl (afterM m) ps).length ≤ 1000
  | [], ps, h => h
  | x :: r, ps, h => run_len f r _ (after_len f)
def wdsD (ws : List (List Str)) : List D := ws.map fun w => D.tup (stD w)
def plD (m n : Mc) (ws : List (List Str)) : List D := ws.map fun w => p2D (st2 m n w)
def rwD : Option (List Str) → D
  | some w => .tup (stD w)
  | none => .non
/-- small enough for the search -/
structure LpOk (t u : Tr) (c : Nat) : Prop where
  f1 : Fits (mcT t 0)
  f2 : Fits (mcT u 0)
  n : ∀ p ∈ (mcT t 0).at_ ++ (mcT u 0).at_, p.2.length ≤ 100
  l : (mcT t 0).at_.length + (mcT u 0).at_.length ≤ 100
  pr : PrOk t u c
  big : (((mcT t 0).at_ ++ (mcT u 0).at_).flatMap (fun p => p.2)).length * (c + 1) + (c + 1) ≤ 90000
/-- the told word is short, of known names or a made one -/
def PaN (t u : Tr) (c : Nat) (r : Option (List Str)) : Prop := ∀ w, r = some w → w.length ≤ c ∧ ∀ x ∈ w, x ∈ namM (mcT t 0) ++ namM (mcT u 0) ∨ ∃ k, k ≤ 10000 ∧ x = aNum k
def ct_least_parting (K : PySem.W.Frag) : Ct := Ct3 fun a b e ka out => ∃ t u one c, a = .val (McD K (mcT t 0)) ∧ b = .val (McD K (mcT u 0)) ∧ e = .val (.bl one) ∧ LpOk t u c ∧ ka = [] ∧
  out = fun o k => k = [] ∧ ∃ r, o = .ret (rwD r) ∧ PaR t u one r ∧ PaN t u c r
section
variable {P : Program} {w : World} {K : PySem.W.Frag} {mg : Str → Option Value} {base : Heap}
theorem ok_least_parting (T : Tx K mg) (F_Machine_after : Fn P w K mg base 6 (He.ma K (He.ga K "Machine") "after") ["self", "places", "lane"] (ct_Machine_after K)) (F_Machine_started : Fn P w K mg base 6 (He.ma K (He.ga K "Machine") "started") ["self", "lane"] (ct_Machine_started K)) (F_Machine_is_done : Fn P w K mg base 4 (He.ma K (He.ga K "Machine") "is_done") ["self", "places"] (ct_Machine_is_done K)) (F_all_names : Fn P w K mg base 4 (He.ga K "all_names") ["one", "two"] (ct_all_names K)) : Fn P w K mg base 8 (He.ga K "least_parting") ["one", "two", "is_one_sided"] (ct_least_parting K) := by
  obtain ⟨fd, F⟩ := T.d_least_parting
  refine fn_ok F sc_least_parting (fun _ _ _ _ _ _ us hl => match us, hl with | [_, _, _], _ => rfl) ct3_len (fun cdv A outer s H E hr => ⟨_, (pss_cons (ps_if (PW.pt (pw_and (pt_cmpR (op_neP (by have := (hr).units; exact this)) (pe_fld (pv 0) rfl) (pe_fld (pv 1) rfl) (nomark _)) (pw_and1 (PW.pt (pw_or (pt_val (pe_fld (pv 0) rfl)) (pw_or1 (pt_not (pt_val (pv 2)))))))))
      (pss_one (ps_ret (pe_tup pa_nil)))
      pss_nil)
      (pss_cons (ps_set (i := 3) sc_least_parting.nd rfl (by first | exact Or.inl rfl | exact Or.inr rfl) (pe_call (F_all_names.up (by decide)).ok hr rfl T.g_all_names.1 T.g_all_names.2 (F_all_names.up (by decide)).bn .nil (pass_own rfl rfl rfl rfl) (pa_cons (pv 0) (pa_cons (pv 1) pa_nil))))
      (pss_cons (ps_setLc (i := 5) (te := (tTup (tCons (tVar 4) tNil))) (tt := tYes) (own := [("name", 4)]) rfl sc_least_parting.nd rfl rfl rfl (pi_seq (pv 3)) (blk_ok ["one", "two", "is_one_sided", "names", "name", "words", "places", "known", "at", "pair", "done"] (defScope s_least_parting) rfl rfl (by decide +kernel)) (fun _ _ _ _ _ => (pg_name (i := 4) sc_least_parting.nd rfl (by first | exact Or.inl rfl | exact Or.inr rfl))) (fun _ _ _ _ _ => pts_nil) (fun _ _ _ _ _ => (pe_tup (pa_cons (pv 4) pa_nil))))
      (pss_cons (ps_setLc (i := 6) (te := (tTup (tCons (tMeth (He.ga K "Machine") "started" (spC K (ct_Machine_started K)) [] (fun _ _ _ => False) (tVar 0) (tCons (tVar 4) tNil)) (tCons (tMeth (He.ga K "Machine") "started" (spC K (ct_Machine_started K)) [] (fun _ _ _ => False) (tVar 1) (tCons (tVar 4) tNil)) tNil)))) (tt := tYes) (own := [("name", 4)]) rfl sc_least_parting.nd rfl rfl rfl (pi_seq (pv 3)) (blk_ok ["one", "two", "is_one_sided", "names", "name", "words", "places", "known", "at", "pair", "done"] (defScope s_least_parting) rfl rfl (by decide +kernel)) (fun _ _ _ _ _ => (pg_name (i := 4) sc_least_parting.nd rfl (by first | exact Or.inl rfl | exact Or.inr rfl))) (fun _ _ _ _ _ => pts_nil) (fun _ _ _ _ _ => (pe_tup (pa_cons (pe_meth (pv 0) T.cl_Machine T.me_Machine_started (F_Machine_started.up (by decide)).ok hr (F_Machine_started.up (by decide)).bn .nil passes_no (pa_cons (pv 4) pa_nil)) (pa_cons (pe_meth (pv 1) T.cl_Machine T.me_Machine_started (F_Machine_started.up (by decide)).ok hr (F_Machine_started.up (by decide)).bn .nil passes_no (pa_cons (pv 4) pa_nil)) pa_nil)))))
      (pss_cons (ps_set (i := 7) sc_least_parting.nd rfl (by first | exact Or.inl rfl | exact Or.inr rfl) pe_nnew)
      (pss_cons (ps_set (i := 8) sc_least_parting.nd rfl (by first | exact Or.inl rfl | exact Or.inr rfl) pe_int)
      (pss_cons (ps_while (passes_of rfl) (pt_cmpR op_lt (pv 8) (pe_callB call_lenU rfl T.n_len (by decide +kernel) (pa_cons (pv 5) pa_nil)) (nomark _)) (pss_cons (ps_set (i := 9) sc_least_parting.nd rfl (by first | exact Or.inl rfl | exact Or.inr rfl) (pe_ix ix_seq (pv 6) (pv 8) fun _ _ => rfl))
      (pss_cons (ps_if (pt_cmp (pc_nnot (hu16 hr) (pv 9) (pv 7)) (by with_unfolding_all rfl))
      (pss_cons (ps_nput (hu16 hr) (pv 7) (pv 9) pe_bl rfl)
      (pss_cons (ps_set (i := 10) sc_least_parting.nd rfl (by first | exact Or.inl rfl | exact Or.inr rfl) (pe_meth (pv 0) T.cl_Machine T.me_Machine_is_done (F_Machine_is_done.up (by decide)).ok hr (F_Machine_is_done.up (by decide)).bn .nil (pass_own rfl rfl rfl rfl) (pa_cons (pe_ix ix_seq (pv 9) pe_int fun _ _ => rfl) pa_nil)))
      (pss_cons (ps_if (PW.pt (pw_and (pt_cmpR (op_neP (by have := (hr).units; exact this)) (pv 10) (pe_meth (pv 1) T.cl_Machine T.me_Machine_is_done (F_Machine_is_done.up (by decide)).ok hr (F_Machine_is_done.up (by decide)).bn .nil (pass_own rfl rfl rfl rfl) (pa_cons (pe_ix ix_seq (pv 9) pe_int fun _ _ => rfl) pa_nil)) (nomark _)) (pw_and1 (PW.pt (pw_or (pt_val (pv 10)) (pw_or1 (pt_not (pt_val (pv 2)))))))))
      (pss_one (ps_ret (pe_ix ix_seq (pv 5) (pv 8) fun _ _ => rfl)))
      pss_nil)
      (pss_one (ps_for (passes_of rfl) rfl (pi_seq (pv 3)) (pg_name (i := 4) sc_least_parting.nd rfl (by first | exact Or.inl rfl | exact Or.inr rfl)) (pss_cons (ps_expr (pe_bm PySem.F.plainAttrs_list PySem.F.slot_list_append PySem.F.type_list_append mt_append (pv 5) (pa_cons (pe_op op_addU (pe_ix ix_seq (pv 5) (pv 8) fun _ _ => rfl) (pe_tup (pa_cons (pv 4) pa_nil))) pa_nil)))
      (pss_one (ps_expr (pe_bm PySem.F.plainAttrs_list PySem.F.slot_list_append PySem.F.type_list_append mt_append (pv 6) (pa_cons (pe_tup (pa_cons (pe_meth (pv 0) T.cl_Machine T.me_Machine_after (F_Machine_after.up (by decide)).ok hr (F_Machine_after.up (by decide)).bn .nil (pass_own rfl rfl rfl rfl) (pa_cons (pe_ix ix_seq (pv 9) pe_int fun _ _ => rfl) (pa_cons (pv 4) pa_nil))) (pa_cons (pe_meth (pv 1) T.cl_Machine T.me_Machine_after (F_Machine_after.up (by decide)).ok hr (F_Machine_after.up (by decide)).bn .nil (pass_own rfl rfl rfl rfl) (pa_cons (pe_ix ix_seq (pv 9) pe_int fun _ _ => rfl) (pa_cons (pv 4) pa_nil))) pa_nil))) pa_nil))))))))))
      pss_nil)
      (pss_one (ps_aug (i := 8) sc_least_parting.nd rfl (by first | exact Or.inl rfl | exact Or.inr rfl) pe_int ip_add)))))
      (pss_one (ps_ret pe_non))))))))), fun ws ka out B F0 Q hC hR hX => ?_⟩)
  obtain ⟨s1, s2, s3, rfl, t, u, one, pw, rfl, rfl, rfl, lp, rfl, rfl⟩ := hC
  have cM := T.cl_Machine
  have f1 := lp.f1
  have f2 := lp.f2
  have r1 := (mcT_r t 0).fi
  have r2 := (mcT_r u 0).fi
  refine q_when (b := dfB (mcT t 0).op (mcT u 0).op one) ((et_and (et_test (ev_ne (d := .bl (mcT t 0).op) (e := .bl (mcT u 0).op) (ev_fld (ev_var rfl) .v cM T.na_Machine_is_optional rfl) (ev_fld (ev_var rfl) .v cM T.na_Machine_is_optional rfl) .v .v rfl rfl)) fun _ => et_or (et_B (ev_fld (d := .bl (mcT t 0).op) (ev_var rfl) .v cM T.na_Machine_is_optional rfl)) fun _ => et_not (et_B (ev_var rfl))).to (by cases (mcT t 0).op <;> cases (mcT u 0).op <;> cases one <;> rfl)) (fun hb => ?_) (fun hd0 => ?_)
  · exact g_ret hR (d := .tup []) (ev_tup (ds := []) ea_nil (show 0 ≤ 100000 by decide)) ⟨rfl, some [], rfl, pa_empty hb, fun w h => by cases h; exact ⟨Nat.zero_le _, fun x h => nomatch h⟩⟩
  refine q_call [] (k1 := []) (ea2 (ev_var rfl) (ev_var rfl)) ⟨_, _, rfl, mcT t 0, mcT u 0, rfl, rfl, lp.l, lp.n, rfl, rfl⟩ (fun o k ⟨_, f, _, e, _⟩ => ⟨_, e⟩) ?_
  rintro _ _ ⟨rfl, nf, hnf, e, hf⟩
  cases e
  generalize hfe : aNum nf = f at *
  have hmem : ∀ x, x ∈ anL ((mcT t 0).at_ ++ (mcT u 0).at_) ↔ x ∈ namM (mcT t 0) ++ namM (mcT u 0) := fun x => by
    rw [an_mem]
    unfold namM
    rw [List.mem_append, List.mem_flatMap, List.mem_flatMap]
    constructor
    · rintro ⟨p, hp, h⟩
      rcases List.mem_append.mp hp with hp | hp
      · exact .inl ⟨p, hp, h⟩
      · exact .inr ⟨p, hp, h⟩
    · rintro (⟨p, hp, h⟩ | ⟨p, hp, h⟩)
      · exact ⟨p, List.mem_append_left _ hp, h⟩
      · exact ⟨p, List.mem_append_right _ hp, h⟩
  have hl := an_len ((mcT t 0).at_ ++ (mcT u 0).at_)
  have big := lp.big
  generalize (((mcT t 0).at_ ++ (mcT u 0).at_).flatMap (fun p => p.2)).length = S at *
  have hNl : (anL ((mcT t 0).at_ ++ (mcT u 0).at_) ++ [f]).length ≤ S + 1 := by
    rw [List.length_append, List.length_singleton]
    omega
  have hNm : ∀ x ∈ anL ((mcT t 0).at_ ++ (mcT u 0).at_) ++ [f], x ∈ namM (mcT t 0) ++ namM (mcT u 0) ∨ ∃ k, k ≤ 10000 ∧ x = aNum k := fun x hx => by
    rcases List.mem_append.mp hx with hx | hx
    · exact .inl ((hmem x).mp hx)
    · exact .inr ⟨nf, hnf, by rw [List.mem_singleton.mp hx, hfe]⟩
  have h1 : ∀ x ∈ namM (mcT t 0) ++ namM (mcT u 0), x ∈ anL ((mcT t 0).at_ ++ (mcT u 0).at_) ++ [f] := fun x hx => List.mem_append_left _ ((hmem x).mpr hx)
  have hfN : f ∈ anL ((mcT t 0).at_ ++ (mcT u 0).at_) ++ [f] := List.mem_append_right _ (List.mem_singleton.mpr rfl)
  have h2 : f ∉ namM (mcT t 0) ++ namM (mcT u 0) := fun z => hf ((hmem f).mpr z)
  generalize anL ((mcT t 0).at_ ++ (mcT u 0).at_) ++ [f] = N at *
  clear hmem hl hf
  have mR := mcT_r t 0
  obtain ⟨PA, allL, allM⟩ := lp.pr
  have rl1 : ∀ w, (runM (mcT t 0) w).length ≤ 1000 := fun w => by
    cases w with
    | nil => exact Nat.zero_le _
    | cons x r => exact run_len f1 r _ (start_len f1)
  have rl2 : ∀ w, (runM (mcT u 0) w).length ≤ 1000 := fun w => by
    cases w with
    | nil => exact Nat.zero_le _
    | cons x r => exact run_len f2 r _ (start_len f2)
  have pf : PaR t u one = PaR t u one := rfl
  have bigN : N.length * (pw + 1) ≤ 90000 := Nat.le_trans (Nat.mul_le_mul_right _ hNl) (by rw [Nat.add_mul, Nat.one_mul]; exact big)
  have hN0 : N.length ≤ 90000 := Nat.le_trans (Nat.le_mul_of_pos_right _ (Nat.succ_pos _)) bigN
  have pwl : pw ≤ 90000 := by omega
  have fin := fun at_ ks qs c (b : WIn (mcT t 0) (mcT u 0) N at_ ks qs) => pa_found (c := c) b hd0 h1 hfN h2
  have nam : ∀ w : List Str, w.length ≤ pw → (∀ x ∈ w, x ∈ N) → PaN t u pw (some w) := fun w hl hx v hv => by
    cases hv
    exact ⟨hl, fun x h => hNm x (hx x h)⟩
  have nan : PaN t u pw none := fun w h => nomatch h
  have non := fun at_ ks qs (b : WIn (mcT t 0) (mcT u 0) N at_ ks qs) => pa_none b hd0 h1 hfN h2
  have wst := WIn.start (mcT t 0) (mcT u 0) N
  have sx : ∀ x : Str, runM (mcT t 0) [x] = startM (mcT t 0) x ∧ runM (mcT u 0) [x] = startM (mcT u 0) x := fun x => ⟨rfl, rfl⟩
  have r1' : ∀ a ∈ (mcT t 0).fi, a < (mcT t 0).at_.length := fun a ha => by have := (r1 a ha).2; omega
  have r2' : ∀ a ∈ (mcT u 0).fi, a < (mcT u 0).at_.length := fun a ha => by have := (r2 a ha).2; omega
  clear r1 r2 mR pf
  generalize hPP : PaR t u one = PP at *
  generalize hPN : PaN t u pw = PN at *
  generalize hm1 : mcT t 0 = m1 at *
  generalize hm2 : mcT u 0 = m2 at *
  refine q_asgN (n := .lst (wdsD (N.map fun x => [x]))) (evn_filt_to (evn_map (xs := N) (g := fun s => W.val (.str s)) (f := fun s => D.tup [.str s]) (ei_strs (ev_var rfl)) (by decide) (by omega) ⟨trivial, fun _ => trivial⟩ (fun x _ => ev_tup (ds := [.str x]) (ea1 (ev_var rfl)) (show 1 ≤ 100000 by decide))) (by unfold wdsD; rw [List.map_map]; rfl)) (fun q => ?_)
  refine q_asgN (n := .lst (plD m1 m2 (N.map fun x => [x]))) (evn_filt_to (evn_map (xs := N) (g := fun s => W.val (.str s)) (f := fun s => D.tup [.tup (nmD (startM m1 s)), .tup (nmD (startM m2 s))]) (ei_strs (ev_var rfl)) (by decide) (by omega) ⟨trivial, fun _ => trivial⟩ (fun x _ => ev_tup (ds := [.tup (nmD (startM m1 x)), .tup (nmD (startM m2 x))]) (ea2 (ev_methP (ev_var rfl) .v rfl (ea1 (ev_var rfl)) ⟨_, _, rfl, m1, x, rfl, rfl, f1, r1', rfl, rfl⟩) (ev_methP (ev_var rfl) .v rfl (ea1 (ev_var rfl)) ⟨_, _, rfl, m2, x, rfl, rfl, f2, r2', rfl, rfl⟩)) (show 2 ≤ 100000 by decide))) (by unfold plD; rw [List.map_map]; rfl)) (fun r => ?_)
  refine q_asgN evn_nnew (fun p => ?_)
  refine q_asg (ev_int (i := 0)) ?_
  refine q_while (fun mm ro ka => ∃ (i : Nat) (ks : List P2) (qs : List (List Str)) (v4 v9 v10 : Option W), ro = [some (.val (McD K m1)), some (.val (McD K m2)), some (.val (.bl one)), some (.val (.lst (stD N))), v4, some (.val (.adr q)), some (.val (.adr r)), some (.val (.adr p)), some (.val (.int (i : Int))), v9, v10] ∧
      ka = [(q, .lst (wdsD qs)), (r, .lst (plD m1 m2 qs)), (p, .din w (ksD ks))] ∧ WIn m1 m2 N i ks qs ∧ (∀ k ∈ ks, ¬ doneP m1 m2 one k = true) ∧ (∀ k ∈ ks, k ∈ PA) ∧ mm = 90000 - i)
    (90000 - 0) ⟨0, [], _, none, none, none, rfl, rfl, wst, (fun k h => nomatch h), (fun k h => nomatch h), rfl⟩ (fun mm ro2 ka2 ⟨i, ks, qs, v4, v9, v10, e1, e2, b, no, inA, hm⟩ => ?_)
  subst e1 e2
  have kl := nd_sub b.nd inA
  have ql := b.len
  have qb : qs.length ≤ 90000 := by
    rw [ql]
    exact Nat.le_trans (Nat.mul_le_mul_left _ (by omega)) bigN
  have wl : ∀ qs : List (List Str), (wdsD qs).length = qs.length := fun qs => List.length_map ..
  have pl : ∀ qs : List (List Str), (plD m1 m2 qs).length = qs.length := fun qs => List.length_map ..
  refine ⟨decide ((i : Int) < (((wdsD qs).length : Nat) : Int)), _, et_test (ev_lt (ev_var rfl) (ev_len (ev_var rfl) (.ce 0 rfl))), fun hb => ?_, fun hb => ?_⟩
  rotate_left
  · rw [wl, decide_eq_false_iff_not] at hb
    exact g_ret hR (d := .non) (ev_non.less (List.nil_sublist _)) ⟨rfl, none, rfl, non i ks qs b no (by omega), nan⟩
  rw [wl, decide_eq_true_eq] at hb
  have hlt : i < qs.length := by omega
  obtain ⟨c, hc⟩ : ∃ c, qs[i]? = some c := ⟨_, List.getElem?_eq_getElem hlt⟩
  have hcm := List.mem_of_getElem? hc
  have hcl := b.ll c hcm
  have hne := b.ne c hcm
  have hcA := allM c hne
  have atw : ∀ {qs : List (List Str)}, qs[i]? = some c → atI (wdsD qs) (i : Int) = some (.tup (stD c)) := fun {qs} h => atI_nat (by unfold wdsD; rw [List.getElem?_map, h]; rfl)
  have atp : atI (plD m1 m2 qs) (i : Int) = some (p2D (st2 m1 m2 c)) := atI_nat (by unfold plD; rw [List.getElem?_map, hc]; rfl)
  refine q_asg (w := .val (nkD (p2K (st2 m1 m2 c)))) ((ev_ixV (ev_var rfl) (ev_var rfl) (.ce 1 rfl) atp).to (by rw [p2K_D])) ?_
  have pr : ∀ {ro : Ro} {k : Cells}, ro[9]? = some (some (.val (nkD (p2K (st2 m1 m2 c))))) → EvD K (tVar 9) ro k (.val (.tup [.tup (nmD (runM m1 c)), .tup (nmD (runM m2 c))])) k := fun {ro k} h => (ev_var h).to (by rw [p2K_D]; rfl)
  refine q_whenI (b := !hasT (ksD ks) (p2K (st2 m1 m2 c))) (fun ro ka => ∃ (ks : List P2) (qs : List (List Str)) (v4 v9 v10 : Option W), ro = [some (.val (McD K m1)), some (.val (McD K m2)), some (.val (.bl one)), some (.val (.lst (stD N))), v4, some (.val (.adr q)), some (.val (.adr r)), some (.val (.adr p)), some (.val (.int (i : Int))), v9, v10] ∧
      ka = [(q, .lst (wdsD qs)), (r, .lst (plD m1 m2 qs)), (p, .din w (ksD ks))] ∧ WIn m1 m2 N (i + 1) ks qs ∧ (∀ k ∈ ks, ¬ doneP m1 m2 one k = true) ∧ (∀ k ∈ ks, k ∈ PA))
    ((et_test (ev_nni (ks := [nmK (runM m1 c), nmK (runM m2 c)]) (ev_var rfl) (ev_var rfl) (.ce 2 rfl) (p2K_dep (st2 m1 m2 c)))).to (by rw [isSome_has]; rfl)) (fun hb2 nx hnx => ?_) (fun hb2 => ?_) (fun ro2 ka2 ⟨ks, qs, v4, v9, v10, e1, e2, b, no, inA⟩ => ?_)
  rotate_left
  · rw [Bool.not_eq_false', ksD_has, decide_eq_true_eq] at hb2
    exact ⟨ks, qs, _, _, _, rfl, rfl, b.again hc hb2, no, inA⟩
  · subst e1 e2
    exact g_augI (z := ((i + 1 : Nat) : Int)) rfl ev_int (fun H Q q => ⟨_, _, rfl, rfl, by push_cast at q ⊢; exact q⟩) (g_jp ⟨90000 - (i + 1), by omega, i + 1, ks, qs, _, _, _, rfl, rfl, b, no, inA, rfl⟩)
  rw [Bool.not_eq_true', ksD_has, decide_eq_false_iff_not] at hb2
  have inA2 : ∀ k ∈ ks ++ [st2 m1 m2 c], k ∈ PA := fun k hk => by
    rcases List.mem_append.mp hk with hk | hk
    · exact inA k hk
    · rw [List.mem_singleton.mp hk]
      exact hcA
  have b2 := b.new hc hb2
  have kl2 := nd_sub b2.nd inA2
  have qb2 := b2.len
  have qb3 : (qs ++ N.map fun x => c ++ [x]).length ≤ 90000 := by
    rw [qb2]
    exact Nat.le_trans (Nat.mul_le_mul_left _ (by omega)) bigN
  rw [List.length_append, List.length_map] at qb3
  have ksl : (ksD ks).length = ks.length := List.length_map ..
  refine q_nput (j := 2) (ks := [nmK (runM m1 c), nmK (runM m2 c)]) (d := .bl true) ev_bl (ev_var rfl) (ev_var rfl) rfl (p2K_dep (st2 m1 m2 c)) (by rw [ksl]; rw [List.length_append] at kl2; omega) ?_
  rw [show putT (ksD ks) (.tup [nmK (runM m1 c), nmK (runM m2 c)]) (D.bl true) = ksD (ks ++ [st2 m1 m2 c]) from ksD_put hb2]
  refine q_asg (w := .val (.bl (doneM m1 (runM m1 c)))) (ev_methP (ev_var rfl) .v rfl (ea1 (ev_ixV (d := .tup (nmD (runM m1 c))) (pr rfl) ev_int .vt rfl)) ⟨_, _, rfl, m1, _, rfl, rfl, rl1 c, rfl, rfl⟩) ?_
  refine q_when (b := doneP m1 m2 one (st2 m1 m2 c)) ((et_and (et_test (ev_ne (d := .bl (doneM m1 (runM m1 c))) (e := .bl (doneM m2 (runM m2 c))) (ev_var rfl) (ev_methP (ev_var rfl) .v rfl (ea1 (ev_ixV (d := .tup (nmD (runM m2 c))) (pr rfl) ev_int .vt rfl)) ⟨_, _, rfl, m2, _, rfl, rfl, rl2 c, rfl, rfl⟩) .v .v rfl rfl)) fun _ => et_or (et_B (ev_var rfl)) fun _ => et_not (et_B (ev_var rfl))).to (by
    show _ = dfB (doneM m1 (runM m1 c)) (doneM m2 (runM m2 c)) one
    cases doneM m1 (runM m1 c) <;> cases doneM m2 (runM m2 c) <;> cases one <;> rfl)) (fun hd => ?_) (fun hd => ?_)
  · exact g_ret hR (d := .tup (stD c)) ((ev_ixV (ev_var rfl) (ev_var rfl) (.ce 0 rfl) (atw hc)).less (List.nil_sublist _)) ⟨rfl, some c, rfl, fin i ks qs c b no hc hd, nam c (by rw [List.length_append, List.length_singleton] at kl2; omega) (b.lt c hcm)⟩
  refine g_forn (ei_strs (ss := N) (ev_var rfl)) (fun j ro ka => ∃ (v4 v10 : Option W), ro = [some (.val (McD K m1)), some (.val (McD K m2)), some (.val (.bl one)), some (.val (.lst (stD N))), v4, some (.val (.adr q)), some (.val (.adr r)), some (.val (.adr p)), some (.val (.int (i : Int))), some (.val (nkD (p2K (st2 m1 m2 c)))), v10] ∧
      ka = [(q, .lst (wdsD (qs ++ (N.take j).map fun x => c ++ [x]))), (r, .lst (plD m1 m2 (qs ++ (N.take j).map fun x => c ++ [x]))), (p, .din w (ksD (ks ++ [st2 m1 m2 c])))])
    ⟨_, _, rfl, by rw [List.take_zero, List.map_nil, List.append_nil]; rfl⟩ (fun j ro ka _ => trivial) (fun j x ro2 ka2 ta2 hx ⟨v4, v10, e1, e2⟩ => ?_) (fun ro2 ka2 ta2 ⟨v4, v10, e1, e2⟩ hta => ?_)
  · subst e1 e2
    rw [List.getElem?_map] at hx
    obtain ⟨x, hxx, rfl⟩ := Option.map_eq_some_iff.mp hx
    have tl : ((N.take j).map fun x => c ++ [x]).length ≤ N.length := by
      rw [List.length_map]
      exact List.length_take_le' ..
    have jl : j < N.length := (List.getElem?_eq_some_iff.mp hxx).1
    have tl2 : ((N.take j).map fun x => c ++ [x]).length = j := by
      rw [List.length_map, List.length_take]
      omega
    have hc2 : (qs ++ (N.take j).map fun x => c ++ [x])[i]? = some c := by rw [List.getElem?_append_left hlt]; exact hc
    refine q_app (j0 := 0) (j := 0) (d := .tup (stD (c ++ [x]))) (ev_var rfl) rfl ((ev_catT (ev_ixV (ev_var rfl) (ev_var rfl) (.ce 0 rfl) (atw hc2)) (ev_tup (ds := [.str x]) (ea1 (ev_var rfl)) (show 1 ≤ 100000 by decide)) (by rw [stD_len]; show _ + 1 ≤ _; rw [List.length_append] at kl2; omega)).to (by rw [← stD_app]; rfl)) rfl (by rw [wl, List.length_append]; omega) ?_
    refine g_app (j0 := 1) (j := 1) (d := p2D (nx2 m1 m2 (st2 m1 m2 c) x)) (ev_var rfl) rfl ((ev_tup (ds := [.tup (nmD (afterM m1 (runM m1 c) x)), .tup (nmD (afterM m2 (runM m2 c) x))]) (ea2 (ev_methP (ev_var rfl) .v rfl (ea2 (ev_ixV (d := .tup (nmD (runM m1 c))) (pr rfl) ev_int .vt rfl) (ev_var rfl)) ⟨_, _, _, rfl, m1, _, x, rfl, rfl, rfl, f1, rl1 c, rfl, rfl⟩) (ev_methP (ev_var rfl) .v rfl (ea2 (ev_ixV (d := .tup (nmD (runM m2 c))) (pr rfl) ev_int .vt rfl) (ev_var rfl)) ⟨_, _, _, rfl, m2, _, x, rfl, rfl, rfl, f2, rl2 c, rfl, rfl⟩)) (show 2 ≤ 100000 by decide))) rfl (by rw [pl, List.length_append]; omega) (g_jp ⟨_, _, rfl, ?_⟩)
    have e1 : wdsD (qs ++ (N.take (j + 1)).map fun x => c ++ [x]) = wdsD (qs ++ (N.take j).map fun x => c ++ [x]) ++ [.tup (stD (c ++ [x]))] := by
      unfold wdsD
      rw [take_succ_some hxx, List.map_append (l₁ := N.take j), ← List.append_assoc, List.map_append]
      rfl
    have e2 : plD m1 m2 (qs ++ (N.take (j + 1)).map fun x => c ++ [x]) = plD m1 m2 (qs ++ (N.take j).map fun x => c ++ [x]) ++ [p2D (nx2 m1 m2 (st2 m1 m2 c) x)] := by
      unfold plD
      rw [take_succ_some hxx, List.map_append (l₁ := N.take j), ← List.append_assoc, List.map_append, ← st2_snoc hne]
      rfl
    rw [e1, e2]
    rfl
  · subst e1 e2
    rw [List.length_map, List.take_length]
    refine (hnx _ _ ⟨ks ++ [st2 m1 m2 c], _, _, _, _, rfl, rfl, b2, fun k hk => ?_, inA2⟩).up hta
    rcases List.mem_append.mp hk with hk | hk
    · exact no k hk
    · rw [List.mem_singleton.mp hk, hd]
      exact Bool.false_ne_true
end
/-- a pattern -/
abbrev PaD (K : PySem.W.Frag) (d : D) : D := .ins (He.ga K "Pattern") [("tree", d)]
def ct_Pattern___init (K : PySem.W.Frag) : Ct := Ct2 fun s a ka out => ∃ p d, s = .val (.adr p) ∧ a = .val d ∧ ka = [(p, .ins (He.ga K "Pattern") [])] ∧ out = Rt .non [(p, .ins (He.ga K "Pattern") [("tree", d)])]
/-- Pattern(tree) -/
theorem ev_pat {K : PySem.W.Frag} {ro : Ro} {ka : Cells} {te : TE} {d : D} {E : XK} (h : EvD K te ro ka (.val d) []) : EvD K (tMake (He.ga K "Pattern") (spC K (ct_Pattern___init K)) [] E (tCons te tNil)) ro ka (.val (PaD K d)) [] :=
  (evn_make (ea1 h) fun a => ⟨_, ⟨_, _, rfl, a, d, rfl, rfl, rfl, rfl⟩, fun _ _ z => z⟩).ins
section
variable {P : Program} {w : World} {K : PySem.W.Frag} {mg : Str → Option Value} {base : Heap}
theorem ok_Pattern___init (T : Tx K mg) : Fn P w K mg base 4 (He.ma K (He.ga K "Pattern") "__init__") ["self", "tree"] (ct_Pattern___init K) := by
  obtain ⟨fd, F⟩ := T.d_Pattern___init
  refine fn_ok F sc_Pattern___init (fun _ _ _ _ _ _ us hl => match us, hl with | [_, _], _ => rfl) ct2_len (fun cdv A outer s H E hr => ⟨_, (pss_one (ps_fld (pv 0) (pv 1) rfl)), fun ws ka out B F0 Q hC hR hX => ?_⟩)
  obtain ⟨s1, a, rfl, p, d, rfl, rfl, rfl, rfl⟩ := hC
  exact g_fld (j := 0) (a := p) (fs := []) (d := d) (ev_var rfl) (ev_var rfl) rfl T.cl_Pattern T.na_Pattern_tree (show 0 < 900 by decide) (g_end hR ⟨rfl, rfl⟩)
end
def strN : D → Str
  | .str s => s
  | _ => ""
theorem all_str : ∀ {ds : List D}, (∀ d ∈ ds, isNmD d = true) → ds = stD (ds.map strN)
  | [], _ => rfl
  | d :: ds, h => by
    have ih := all_str fun e he => h e (List.mem_cons_of_mem _ he)
    have h0 := h d List.mem_cons_self
    cases d with
    | str s => exact congrArg (D.str s :: ·) ih
    | _ => cases h0
/-- what a row of things stands for: the walk of these names, or what is refused -/
def apOut (K : PySem.W.Frag) (P : Tr → Oc) (ds : List D) : Oc := match ds, ds.find? (fun d => !isNmD d) with
  | [], _ => X0 (He.ga K "EmptyWalk") []
  | d :: r, none => P (wdT (strN d) (r.map strN))
  | _ :: _, some d => Xt (He.ga K "BadName") [("name", d)] []
theorem row_ok {ds : List D} (h : ∀ e ∈ ds, isNmD e = true) : ds = stD (ds.map strN) := all_str h
theorem find_ok {ds : List D} (h : ds.find? (fun d => !isNmD d) = none) : ∀ e ∈ ds, isNmD e = true := fun e he => by
  have := List.find?_eq_none.mp h e he
  simpa using this
theorem ap_none {K : PySem.W.Frag} {P : Tr → Oc} {d : D} {r : List D} (h : (d :: r).find? (fun d => !isNmD d) = none) : apOut K P (d :: r) = P (wdT (strN d) (r.map strN)) := by unfold apOut; rw [h]
theorem ap_some {K : PySem.W.Frag} {P : Tr → Oc} {d e : D} {r : List D} (h : (d :: r).find? (fun d => !isNmD d) = some e) : apOut K P (d :: r) = Xt (He.ga K "BadName") [("name", e)] [] := by unfold apOut; rw [h]
def ct_any_of (K : PySem.W.Frag) : Ct := Ct1 fun a ka out => ∃ ds : List D, a = .val (.tup ds) ∧ (∀ d ∈ ds, nmOk d) ∧ ka = [] ∧ out = apOut K (fun _ => Rt (PaD K ((Tr.at true (ds.map strN)).d false)) []) ds
section
variable {P : Program} {w : World} {K : PySem.W.Frag} {mg : Str → Option Value} {base : Heap}
theorem ok_any_of (T : Tx K mg) (F_check_lanes : Fn P w K mg base 6 (He.ga K "check_lanes") ["lanes"] (ct_check_lanes K)) (F_Pattern___init : Fn P w K mg base 4 (He.ma K (He.ga K "Pattern") "__init__") ["self", "tree"] (ct_Pattern___init K)) : FnV P w K mg base 8 (He.ga K "any_of") (ct_any_of K) := by
  obtain ⟨fd, F⟩ := T.d_any_of
  refine fn_okV F sc_any_of (fun _ _ _ _ _ _ rest => by cases rest <;> rfl) ct1_len (fun cdv A outer s H E hr => ⟨_, (pss_cons (ps_expr (pe_call (F_check_lanes.up (by decide)).ok hr rfl T.g_check_lanes.1 T.g_check_lanes.2 (F_check_lanes.up (by decide)).bn .nil (pass_own rfl rfl rfl rfl) (pa_cons (pv 0) pa_nil)))
      (pss_one (ps_ret (pe_make T.mk_Pattern (F_Pattern___init.up (by decide)).ok hr rfl T.g_Pattern.1 (F_Pattern___init.up (by decide)).bn .nil (pass_own rfl rfl rfl rfl) (pa_cons (pe_tup (pa_cons pe_str (pa_cons (pv 0) pa_nil))) pa_nil))))), fun ws ka out B F0 Q hC hR hX => ?_⟩)
  obtain ⟨a, rfl, ds, rfl, hd, rfl, rfl⟩ := hC
  match ds, hd, hX, hR with
  | [], _, hX, _ => exact q_dropP0 hX (evx0_call (k2 := []) (kr := []) (k3 := []) (ea1 (ev_var rfl)) ⟨_, rfl, true, [], false, .vt, .inl rfl, (fun _ h => by cases h), rfl⟩ rfl) ⟨rfl, rfl⟩
  | d :: r, hd, hX, hR =>
    cases h : (d :: r).find? (fun d => !isNmD d) with
    | some e =>
      rw [ap_some h] at hX
      exact q_dropP hX (evx_call (k2 := []) (kr := []) (k3 := []) (ea1 (ev_var rfl)) ⟨_, rfl, true, _, false, .vt, .inl rfl, hd, (ck_bad h).symm⟩ rfl) ⟨rfl, rfl⟩
    | none =>
      rw [ap_none h] at hR
      have all := find_ok h
      refine q_drop (ev_callA (k2 := []) (d := .non) (ea1 (ev_var rfl)) ⟨_, rfl, true, _, false, .vt, .inl rfl, hd, (ck_ok (List.cons_ne_nil _ _) all).symm⟩) ?_
      have e : d :: r = stD ((d :: r).map strN) := row_ok all
      exact g_ret hR (ev_pat (ev_tup (ds := [.str "any", .tup (stD ((d :: r).map strN))]) (ea2 ev_str ((ev_var rfl).to (by rw [← e]))) (Nat.le_of_ble_eq_true rfl))) ⟨rfl, rfl⟩
end
def noOut (K : PySem.W.Frag) (ds : List D) : Oc := if ds = [] then Rt (PaD K ((Tr.at false []).d false)) [] else apOut K (fun _ => Rt (PaD K ((Tr.at false (ds.map strN)).d false)) []) ds
def ct_none_of (K : PySem.W.Frag) : Ct := Ct1 fun a ka out => ∃ ds : List D, a = .val (.tup ds) ∧ (∀ d ∈ ds, nmOk d) ∧ ka = [] ∧ out = noOut K ds
section
variable {P : Program} {w : World} {K : PySem.W.Frag} {mg : Str → Option Value} {base : Heap}
theorem ok_none_of (T : Tx K mg) (F_check_lanes : Fn P w K mg base 6 (He.ga K "check_lanes") ["lanes"] (ct_check_lanes K)) (F_Pattern___init : Fn P w K mg base 4 (He.ma K (He.ga K "Pattern") "__init__") ["self", "tree"] (ct_Pattern___init K)) : FnV P w K mg base 8 (He.ga K "none_of") (ct_none_of K) := by
  obtain ⟨fd, F⟩ := T.d_none_of
  refine fn_okV F sc_none_of (fun _ _ _ _ _ _ rest => by cases rest <;> rfl) ct1_len (fun cdv A outer s H E hr => ⟨_, (pss_cons (ps_if (pt_cmpR op_gt (pe_callB call_lenU rfl T.n_len (by decide +kernel) (pa_cons (pv 0) pa_nil)) pe_int (nomark _))
      (pss_one (ps_expr (pe_call (F_check_lanes.up (by decide)).ok hr rfl T.g_check_lanes.1 T.g_check_lanes.2 (F_check_lanes.up (by decide)).bn .nil (pass_own rfl rfl rfl rfl) (pa_cons (pv 0) pa_nil))))
      pss_nil)
      (pss_one (ps_ret (pe_make T.mk_Pattern (F_Pattern___init.up (by decide)).ok hr rfl T.g_Pattern.1 (F_Pattern___init.up (by decide)).bn .nil (pass_own rfl rfl rfl rfl) (pa_cons (pe_tup (pa_cons pe_str (pa_cons (pv 0) pa_nil))) pa_nil))))), fun ws ka out B F0 Q hC hR hX => ?_⟩)
  obtain ⟨a, rfl, ds, rfl, hd, rfl, rfl⟩ := hC
  match ds, hd, hX, hR with
  | [], _, _, hR =>
    refine q_when ((et_test (ev_gt (ev_len (ev_var rfl) .vt) ev_int)).to (b := false) rfl) (fun z => by cases z) (fun _ => ?_)
    exact g_ret hR (ev_pat (ev_tup (ds := [.str "none", .tup (stD [])]) (ea2 ev_str (ev_var rfl)) (Nat.le_of_ble_eq_true rfl))) ⟨rfl, rfl⟩
  | d :: r, hd, hX, hR =>
    have e0 : noOut K (d :: r) = apOut K (fun _ => Rt (PaD K ((Tr.at false ((d :: r).map strN)).d false)) []) (d :: r) := if_neg (List.cons_ne_nil _ _)
    rw [e0] at hX hR
    refine q_when ((et_test (ev_gt (ev_len (ev_var rfl) .vt) ev_int)).to (b := true) (decide_eq_true (by rw [List.length_cons]; omega))) (fun _ => ?_) (fun z => by cases z)
    cases h : (d :: r).find? (fun d => !isNmD d) with
    | some e =>
      rw [ap_some h] at hX
      exact g_dropP hX (evx_call (k2 := []) (kr := []) (k3 := []) (ea1 (ev_var rfl)) ⟨_, rfl, true, _, false, .vt, .inl rfl, hd, (ck_bad h).symm⟩ rfl) ⟨rfl, rfl⟩
    | none =>
      rw [ap_none h] at hR
      have all := find_ok h
      refine g_drop (ev_callA (k2 := []) (d := .non) (ea1 (ev_var rfl)) ⟨_, rfl, true, _, false, .vt, .inl rfl, hd, (ck_ok (List.cons_ne_nil _ _) all).symm⟩) ?_
      have e : d :: r = stD ((d :: r).map strN) := row_ok all
      exact g_ret hR (ev_pat (ev_tup (ds := [.str "none", .tup (stD ((d :: r).map strN))]) (ea2 ev_str ((ev_var rfl).to (by rw [← e]))) (Nat.le_of_ble_eq_true rfl))) ⟨rfl, rfl⟩
end
def ct_word_pattern (K : PySem.W.Frag) : Ct := Ct1 fun a ka out => ∃ (tt : Bool) (x : Str) (xs : List Str), Lk [] a tt (stD (x :: xs)) false ∧ xs.length ≤ 1000 ∧ ka = [] ∧ out = Rt (PaD K ((wdT x xs).d false)) []
section
variable {P : Program} {w : World} {K : PySem.W.Frag} {mg : Str → Option Value} {base : Heap}
theorem ok_word_pattern (T : Tx K mg) (F_Pattern___init : Fn P w K mg base 4 (He.ma K (He.ga K "Pattern") "__init__") ["self", "tree"] (ct_Pattern___init K)) : Fn P w K mg base 6 (He.ga K "word_pattern") ["names"] (ct_word_pattern K) := by
  obtain ⟨fd, F⟩ := T.d_word_pattern
  refine fn_ok F sc_word_pattern (fun _ _ _ _ _ _ us hl => match us, hl with | [_], _ => rfl) ct1_len (fun cdv A outer s H E hr => ⟨_, (pss_cons (ps_set (i := 1) sc_word_pattern.nd rfl (by first | exact Or.inl rfl | exact Or.inr rfl) (pe_tup (pa_cons pe_str (pa_cons (pe_tup (pa_cons (pe_ix ix_seq (pv 0) pe_int fun _ _ => rfl) pa_nil)) pa_nil))))
      (pss_cons (ps_for (passes_of rfl) rfl (pi_seq (pe_slice sl_U (pv 0) (po_some pe_int) po_none)) (pg_name (i := 2) sc_word_pattern.nd rfl (by first | exact Or.inl rfl | exact Or.inr rfl)) (pss_one (ps_set (i := 1) sc_word_pattern.nd rfl (by first | exact Or.inl rfl | exact Or.inr rfl) (pe_tup (pa_cons pe_str (pa_cons (pv 1) (pa_cons (pe_tup (pa_cons pe_str (pa_cons (pe_tup (pa_cons (pv 2) pa_nil)) pa_nil))) pa_nil)))))))
      (pss_one (ps_ret (pe_make T.mk_Pattern (F_Pattern___init.up (by decide)).ok hr rfl T.g_Pattern.1 (F_Pattern___init.up (by decide)).bn .nil (pass_own rfl rfl rfl rfl) (pa_cons (pv 1) pa_nil)))))), fun ws ka out B F0 Q hC hR hX => ?_⟩)
  obtain ⟨a, rfl, tt, x, xs, l, hl, rfl, rfl⟩ := hC
  have cut : cutD (stD (x :: xs)) (some 1) none = stD xs := by
    rw [cut_from (by decide) (by rw [stD_len, List.length_cons]; omega)]
    rfl
  cases l with
  | ce j h => simp at h
  | vt =>
    refine q_asg (ev_tup (ds := [.str "any", .tup [.str x]]) (ea2 ev_str (ev_tup (ds := [.str x]) (ea1 (ev_ixV (ev_var rfl) ev_int .vt at0)) (Nat.le_of_ble_eq_true rfl))) (Nat.le_of_ble_eq_true rfl)) ?_
    refine q_forn (C := fun _ => True) (EvI.ws (ws' := xs.map fun s : Str => W.val (.str s)) (ei_seq (ds := stD xs) ((ev_slT (ev_var rfl) (eo_some ev_int) eo_none).to (by rw [cut])) .vt) (by unfold stD; rw [List.map_map]; rfl)) (fun i ro ka => ∃ v, ro = [some (.val (.tup (stD (x :: xs)))), some (.val ((wdT x (xs.take i)).d false)), v] ∧ ka = []) ⟨none, rfl, rfl⟩ (fun _ _ _ _ => trivial) (fun i w ro2 ka2 ta' hw ⟨v, e1, e2⟩ => ?_) (fun ro2 ka2 ta' ⟨v, e1, e2⟩ _ => ?_)
    · subst e1 e2
      rw [List.getElem?_map] at hw
      obtain ⟨y, hy, rfl⟩ := Option.map_eq_some_iff.mp hw
      refine g_asg (w := .val ((Tr.join (wdT x (xs.take i)) (.at true [y])).d false)) (ev_tup (ds := [.str "join", (wdT x (xs.take i)).d false, .tup [.str "any", .tup [.str y]]]) (ea3 ev_str (ev_var rfl) (ev_tup (ds := [.str "any", .tup [.str y]]) (ea2 ev_str (ev_tup (ds := [.str y]) (ea1 (ev_var rfl)) (Nat.le_of_ble_eq_true rfl))) (Nat.le_of_ble_eq_true rfl))) (Nat.le_of_ble_eq_true rfl)) (g_jp ⟨some (.val (.str y)), ?_, rfl⟩)
      rw [take_succ_some hy, wdT_snoc]
      rfl
    · subst e1 e2
      rw [List.length_map, List.take_length]
      exact g_ret hR (ev_pat (ev_var rfl)) ⟨rfl, rfl⟩
  | vl =>
    refine q_asg (ev_tup (ds := [.str "any", .tup [.str x]]) (ea2 ev_str (ev_tup (ds := [.str x]) (ea1 (ev_ixV (ev_var rfl) ev_int .vl at0)) (Nat.le_of_ble_eq_true rfl))) (Nat.le_of_ble_eq_true rfl)) ?_
    refine q_forn (C := fun _ => True) (EvI.ws (ws' := xs.map fun s : Str => W.val (.str s)) (ei_seq (ds := stD xs) ((evn_sl (ev_var rfl) (eo_some ev_int) eo_none .vl).lst.to (w' := .val (.lst (stD xs))) (congrArg (fun z => W.val (.lst z)) cut)) .vl) (by unfold stD; rw [List.map_map]; rfl)) (fun i ro ka => ∃ v, ro = [some (.val (.lst (stD (x :: xs)))), some (.val ((wdT x (xs.take i)).d false)), v] ∧ ka = []) ⟨none, rfl, rfl⟩ (fun _ _ _ _ => trivial) (fun i w ro2 ka2 ta' hw ⟨v, e1, e2⟩ => ?_) (fun ro2 ka2 ta' ⟨v, e1, e2⟩ _ => ?_)
    · subst e1 e2
      rw [List.getElem?_map] at hw
      obtain ⟨y, hy, rfl⟩ := Option.map_eq_some_iff.mp hw
      refine g_asg (w := .val ((Tr.join (wdT x (xs.take i)) (.at true [y])).d false)) (ev_tup (ds := [.str "join", (wdT x (xs.take i)).d false, .tup [.str "any", .tup [.str y]]]) (ea3 ev_str (ev_var rfl) (ev_tup (ds := [.str "any", .tup [.str y]]) (ea2 ev_str (ev_tup (ds := [.str y]) (ea1 (ev_var rfl)) (Nat.le_of_ble_eq_true rfl))) (Nat.le_of_ble_eq_true rfl))) (Nat.le_of_ble_eq_true rfl)) (g_jp ⟨some (.val (.str y)), ?_, rfl⟩)
      rw [take_succ_some hy, wdT_snoc]
      rfl
    · subst e1 e2
      rw [List.length_map, List.take_length]
      exact g_ret hR (ev_pat (ev_var rfl)) ⟨rfl, rfl⟩
end
def ct_walk_of (K : PySem.W.Frag) : Ct := Ct1 fun a ka out => ∃ ds : List D, a = .val (.tup ds) ∧ ds.length ≤ 8 ∧ (∀ d ∈ ds, nmOk d) ∧ ka = [] ∧ out = apOut K (fun u => Rt (PaD K (u.d false)) []) ds
section
variable {P : Program} {w : World} {K : PySem.W.Frag} {mg : Str → Option Value} {base : Heap}
theorem ok_walk_of (T : Tx K mg) (F_check_lanes : Fn P w K mg base 6 (He.ga K "check_lanes") ["lanes"] (ct_check_lanes K)) (F_word_pattern : Fn P w K mg base 6 (He.ga K "word_pattern") ["names"] (ct_word_pattern K)) : FnV P w K mg base 8 (He.ga K "walk_of") (ct_walk_of K) := by
  obtain ⟨fd, F⟩ := T.d_walk_of
  refine fn_okV F sc_walk_of (fun _ _ _ _ _ _ rest => by cases rest <;> rfl) ct1_len (fun cdv A outer s H E hr => ⟨_, (pss_cons (ps_expr (pe_call (F_check_lanes.up (by decide)).ok hr rfl T.g_check_lanes.1 T.g_check_lanes.2 (F_check_lanes.up (by decide)).bn .nil (pass_own rfl rfl rfl rfl) (pa_cons (pv 0) pa_nil)))
      (pss_one (ps_ret (pe_call (F_word_pattern.up (by decide)).ok hr rfl T.g_word_pattern.1 T.g_word_pattern.2 (F_word_pattern.up (by decide)).bn .nil (pass_own rfl rfl rfl rfl) (pa_cons (pv 0) pa_nil))))), fun ws ka out B F0 Q hC hR hX => ?_⟩)
  obtain ⟨a, rfl, ds, rfl, hl, hd, rfl, rfl⟩ := hC
  match ds, hl, hd, hX, hR with
  | [], _, _, hX, _ => exact q_dropP0 hX (evx0_call (k2 := []) (kr := []) (k3 := []) (ea1 (ev_var rfl)) ⟨_, rfl, true, [], false, .vt, .inl rfl, (fun _ h => by cases h), rfl⟩ rfl) ⟨rfl, rfl⟩
  | d :: r, hl, hd, hX, hR =>
    cases h : (d :: r).find? (fun d => !isNmD d) with
    | some e =>
      rw [ap_some h] at hX
      exact q_dropP hX (evx_call (k2 := []) (kr := []) (k3 := []) (ea1 (ev_var rfl)) ⟨_, rfl, true, _, false, .vt, .inl rfl, hd, (ck_bad h).symm⟩ rfl) ⟨rfl, rfl⟩
    | none =>
      rw [ap_none h] at hR
      have all := find_ok h
      refine q_drop (ev_callA (k2 := []) (d := .non) (ea1 (ev_var rfl)) ⟨_, rfl, true, _, false, .vt, .inl rfl, hd, (ck_ok (List.cons_ne_nil _ _) all).symm⟩) ?_
      have e : d :: r = stD (strN d :: r.map strN) := row_ok all
      exact g_ret hR (ev_callP (ea1 ((ev_var rfl).to (congrArg (fun z => W.val (.tup z)) e))) ⟨_, rfl, true, strN d, r.map strN, .vt, by rw [List.length_map]; rw [List.length_cons] at hl; omega, rfl, rfl⟩) ⟨rfl, rfl⟩
end
/-- what stands for a pattern: a row of names of up to eight things, a pattern of up to ten atoms; how it is met -/
def MoR (K : PySem.W.Frag) (a : W) (P : Tr → Oc) (out : Oc) : Prop :=
  (∃ t ds, Lk [] a t ds false ∧ ds.length ≤ 8 ∧ (∀ d ∈ ds, nmOk d) ∧ out = apOut K P ds) ∨ (∃ u : Tr, a = .val (PaD K (u.d false)) ∧ u.dep < 8 ∧ u.sm ∧ u.ats ≤ 10 ∧ out = P u)
def ct_as_pattern (K : PySem.W.Frag) : Ct := Ct1 fun a ka out => MoR K a (fun u => Rt (PaD K (u.d false)) []) out ∧ ka = []
section
variable {P : Program} {w : World} {K : PySem.W.Frag} {mg : Str → Option Value} {base : Heap}
theorem ok_as_pattern (T : Tx K mg) (F_check_lanes : Fn P w K mg base 6 (He.ga K "check_lanes") ["lanes"] (ct_check_lanes K)) (F_word_pattern : Fn P w K mg base 6 (He.ga K "word_pattern") ["names"] (ct_word_pattern K)) : Fn P w K mg base 8 (He.ga K "as_pattern") ["thing"] (ct_as_pattern K) := by
  obtain ⟨fd, F⟩ := T.d_as_pattern
  refine fn_ok F sc_as_pattern (fun _ _ _ _ _ _ us hl => match us, hl with | [_], _ => rfl) ct1_len (fun cdv A outer s H E hr => ⟨_, (pss_cons (ps_if (pt_val (pe_callB call_isi rfl T.n_isinstance (by decide +kernel) (pa_cons (pv 0) (pa_cons (pe_glob (v := .ref (He.ga K "Pattern")) rfl T.g_Pattern.1 rfl) pa_nil))))
      (pss_one (ps_ret (pv 0)))
      pss_nil)
      (pss_cons (ps_expr (pe_call (F_check_lanes.up (by decide)).ok hr rfl T.g_check_lanes.1 T.g_check_lanes.2 (F_check_lanes.up (by decide)).bn .nil (pass_own rfl rfl rfl rfl) (pa_cons (pv 0) pa_nil)))
      (pss_one (ps_ret (pe_call (F_word_pattern.up (by decide)).ok hr rfl T.g_word_pattern.1 T.g_word_pattern.2 (F_word_pattern.up (by decide)).bn .nil (pass_own rfl rfl rfl rfl) (pa_cons (pv 0) pa_nil)))))), fun ws ka out B F0 Q hC hR hX => ?_⟩)
  obtain ⟨a, rfl, ⟨t, ds, l, hz, hd, rfl⟩ | ⟨u, rfl, _, _, _, rfl⟩, rfl⟩ := hC
  rotate_left
  · exact q_when ((et_test (ev_isiC (ev_var rfl) (.io .v T.ci_Pattern) T.ko_Pattern_Pattern)).to (b := true) rfl) (fun _ => g_ret hR (ev_var rfl) ⟨rfl, rfl⟩) (fun z => by cases z)
  have isi : EvT K (tTest (tCB (rIsi K) (tCons (tVar 0) (tCons (tC (.ref (He.ga K "Pattern"))) tNil)))) [some a] [] false [] := by
    cases l with
    | ce j h => simp at h
    | vl => exact et_test (ev_isiC (ev_var rfl) (tw_of (T := "list") rfl) T.kc_list_Pattern)
    | vt => exact et_test (ev_isiC (ev_var rfl) (tw_of (T := "tuple") rfl) T.kc_tuple_Pattern)
  refine q_when isi (fun z => by cases z) (fun _ => ?_)
  match ds, l, hz, hd, hX, hR with
  | [], l, _, hd, hX, _ => exact q_dropP0 hX (evx0_call (k2 := []) (kr := []) (k3 := []) (ea1 (ev_var rfl)) ⟨_, rfl, t, [], false, l, .inl rfl, hd, rfl⟩ rfl) ⟨rfl, rfl⟩
  | d :: r, l, hz, hd, hX, hR =>
    cases h : (d :: r).find? (fun d => !isNmD d) with
    | some e =>
      have ex : apOut K (fun u => Rt (PaD K (u.d false)) []) (d :: r) = Xt (He.ga K "BadName") [("name", e)] [] := by unfold apOut; rw [h]
      rw [ex] at hX
      exact q_dropP hX (evx_call (k2 := []) (kr := []) (k3 := []) (ea1 (ev_var rfl)) ⟨_, rfl, t, _, false, l, .inl rfl, hd, (ck_bad h).symm⟩ rfl) ⟨rfl, rfl⟩
    | none =>
      have all : ∀ e ∈ d :: r, isNmD e = true := fun e he => by
        have := List.find?_eq_none.mp h e he
        simpa using this
      have ex : apOut K (fun u => Rt (PaD K (u.d false)) []) (d :: r) = Rt (PaD K ((wdT (strN d) (r.map strN)).d false)) [] := by unfold apOut; rw [h]
      rw [ex] at hR
      refine q_drop (ev_callA (k2 := []) (d := .non) (ea1 (ev_var rfl)) ⟨_, rfl, t, _, false, l, .inl rfl, hd, (ck_ok (List.cons_ne_nil _ _) all).symm⟩) ?_
      have row : d :: r = stD (strN d :: r.map strN) := all_str all
      exact g_ret hR (ev_callP (ea1 (ev_var rfl)) ⟨_, rfl, t, strN d, r.map strN, row ▸ l, by rw [List.length_map]; rw [List.length_cons] at hz; omega, rfl, rfl⟩) ⟨rfl, rfl⟩
end
theorem wd_ats (x : Str) (xs : List Str) : (wdT x xs).ats = xs.length + 1 ∧ (wdT x xs).ops = xs.length ∧ (wdT x xs).dep ≤ xs.length ∧ (wdT x xs).few := by
  have key : ∀ n (xs : List Str), xs.length = n → (wdT x xs).ats = xs.length + 1 ∧ (wdT x xs).ops = xs.length ∧ (wdT x xs).dep ≤ xs.length ∧ (wdT x xs).few := by
    intro n
    induction n with
    | zero =>
      intro xs h
      obtain rfl := List.eq_nil_of_length_eq_zero h
      exact ⟨rfl, rfl, Nat.le_refl _, Nat.le_of_ble_eq_true rfl⟩
    | succ n ih =>
      intro xs h
      have hne : xs ≠ [] := fun z => by rw [z] at h; cases h
      obtain ⟨ys, y, rfl⟩ : ∃ ys y, xs = ys ++ [y] := ⟨xs.dropLast, xs.getLast hne, (List.dropLast_concat_getLast hne).symm⟩
      rw [List.length_append] at h ⊢
      obtain ⟨h1, h2, h3, h4⟩ := ih ys (by simpa using h)
      rw [wdT_snoc]
      refine ⟨?_, ?_, ?_, h4, Nat.le_of_ble_eq_true rfl⟩
      · show (wdT x ys).ats + 1 = _
        rw [h1]; rfl
      · show (wdT x ys).ops + 0 + 1 = _
        rw [h2]; rfl
      · show max (wdT x ys).dep 0 + 1 ≤ ys.length + 1
        omega
  exact key _ xs rfl
def ct_machine_of (K : PySem.W.Frag) : Ct := Ct1 fun a ka out => MoR K a (fun u => Rt (McD K (mcT u 0)) []) out ∧ ka = []
section
variable {P : Program} {w : World} {K : PySem.W.Frag} {mg : Str → Option Value} {base : Heap}
theorem ok_machine_of (T : Tx K mg) (F_made_machine : Fn P w K mg base 24 (He.ga K "made_machine") ["tree"] (ct_made_machine K)) (F_as_pattern : Fn P w K mg base 8 (He.ga K "as_pattern") ["thing"] (ct_as_pattern K)) : Fn P w K mg base 26 (He.ga K "machine_of") ["thing"] (ct_machine_of K) := by
  obtain ⟨fd, F⟩ := T.d_machine_of
  refine fn_ok F sc_machine_of (fun _ _ _ _ _ _ us hl => match us, hl with | [_], _ => rfl) ct1_len (fun cdv A outer s H E hr => ⟨_, (pss_one (ps_ret (pe_call (F_made_machine.up (by decide)).ok hr rfl T.g_made_machine.1 T.g_made_machine.2 (F_made_machine.up (by decide)).bn .nil (pass_own rfl rfl rfl rfl) (pa_cons (pe_fld (pe_call (F_as_pattern.up (by decide)).ok hr rfl T.g_as_pattern.1 T.g_as_pattern.2 (F_as_pattern.up (by decide)).bn .nil (pass_own rfl rfl rfl rfl) (pa_cons (pv 0) pa_nil)) rfl) pa_nil)))), fun ws ka out B F0 Q hC hR hX => ?_⟩)
  obtain ⟨a, rfl, ⟨t, ds, l, hz, hd, rfl⟩ | ⟨u, rfl, hd, sm, ha, rfl⟩, rfl⟩ := hC
  rotate_left
  · exact g_ret hR (ev_callP (ea1 (ev_fld (ev_callP (d := PaD K (u.d false)) (ea1 (ev_var rfl)) ⟨_, rfl, .inr ⟨u, rfl, hd, sm, ha, rfl⟩, rfl⟩) .v T.cl_Pattern T.na_Pattern_tree rfl)) ⟨_, rfl, _, rfl, hd, sm, rfl, rfl⟩) ⟨rfl, rfl⟩
  match ds, l, hz, hd, hX, hR with
  | [], l, _, hd, hX, _ => exact g_retP0 hX (evx0_arg (evx0_fld (evx0_call (k2 := []) (kr := []) (k3 := []) (ea1 (ev_var rfl)) ⟨_, rfl, .inl ⟨t, [], l, Nat.zero_le _, hd, rfl⟩, rfl⟩ rfl))) ⟨rfl, rfl⟩
  | d :: r, l, hz, hd, hX, hR =>
    cases h : (d :: r).find? (fun d => !isNmD d) with
    | some e =>
      have ex : ∀ P, apOut K P (d :: r) = Xt (He.ga K "BadName") [("name", e)] [] := fun P => by unfold apOut; rw [h]
      rw [ex] at hX
      exact g_retPX hX (evx_arg (evx_fld (evx_call (k2 := []) (kr := []) (k3 := []) (ea1 (ev_var rfl)) ⟨_, rfl, .inl ⟨t, _, l, by omega, hd, (ex _).symm⟩, rfl⟩ rfl))) ⟨rfl, rfl⟩
    | none =>
      have ex : ∀ P, apOut K P (d :: r) = P (wdT (strN d) (r.map strN)) := fun P => by unfold apOut; rw [h]
      rw [ex] at hR
      rw [List.length_cons] at hz
      obtain ⟨h1, h2, h3, h4⟩ := wd_ats (strN d) (r.map strN)
      rw [List.length_map] at h1 h2 h3
      have sm : (wdT (strN d) (r.map strN)).sm := by
        refine sm_of (n := 8) h4 (by omega) (by decide) ?_
        calc (wdT (strN d) (r.map strN)).ops * (8 * 8) ≤ 7 * (8 * 8) := Nat.mul_le_mul_right _ (by omega)
          _ ≤ 90000 := by decide
      exact g_ret hR (ev_callP (ea1 (ev_fld (ev_callP (d := PaD K ((wdT (strN d) (r.map strN)).d false)) (ea1 (ev_var rfl)) ⟨_, rfl, .inl ⟨t, _, l, by rw [List.length_cons]; omega, hd, (ex (fun u => Rt (PaD K (u.d false)) [])).symm⟩, rfl⟩) .v T.cl_Pattern T.na_Pattern_tree rfl)) ⟨_, rfl, _, rfl, by omega, sm, rfl, rfl⟩) ⟨rfl, rfl⟩
end
/-- what a thing that stands for a pattern comes to -/
inductive Rs where
  | em
  | bd (d : D)
  | tr (u : Tr)
def apR (ds : List D) : Rs := match ds, ds.find? (fun d => !isNmD d) with
  | [], _ => .em
  | d :: r, none => .tr (wdT (strN d) (r.map strN))
  | _ :: _, some d => .bd d
def rsO (K : PySem.W.Frag) (P : Tr → Oc) : Rs → Oc
  | .em => X0 (He.ga K "EmptyWalk") []
  | .bd d => Xt (He.ga K "BadName") [("name", d)] []
  | .tr u => P u
theorem ap_rs {K : PySem.W.Frag} {P : Tr → Oc} (ds : List D) : apOut K P ds = rsO K P (apR ds) := by
  cases ds with
  | nil => rfl
  | cons d r =>
    cases h : (d :: r).find? (fun d => !isNmD d) with
    | none => rw [ap_none h]; unfold apR; rw [h]; rfl
    | some e => rw [ap_some h]; unfold apR; rw [h]; rfl
/-- a thing that stands for a pattern, and what it comes to -/
def RsR (K : PySem.W.Frag) (a : W) (r : Rs) : Prop := ∀ P, MoR K a P (rsO K P r)
theorem rs_tup {K : PySem.W.Frag} {ds : List D} (hl : ds.length ≤ 8) (h : ∀ d ∈ ds, nmOk d) : RsR K (.val (.tup ds)) (apR ds) := fun P => .inl ⟨true, ds, .vt, hl, h, (ap_rs ds).symm⟩
theorem rs_lst {K : PySem.W.Frag} {ds : List D} (hl : ds.length ≤ 8) (h : ∀ d ∈ ds, nmOk d) : RsR K (.val (.lst ds)) (apR ds) := fun P => .inl ⟨false, ds, .vl, hl, h, (ap_rs ds).symm⟩
theorem rs_pat {K : PySem.W.Frag} {u : Tr} (hd : u.dep < 8) (sm : u.sm) (ha : u.ats ≤ 10) : RsR K (.val (PaD K (u.d false))) (.tr u) := fun P => .inr ⟨u, rfl, hd, sm, ha, rfl⟩
/-- what two things come to -/
def rs2 (K : PySem.W.Frag) (Q : Oc) (r1 r2 : Rs) : Oc := rsO K (fun _ => rsO K (fun _ => Q) r2) r1
theorem evx0_arg2 {K : PySem.W.Frag} {ro : Ro} {ka k1 k2 : Cells} {te tf : TE} {tr : TA} {w : W} {E : XK} {C1 : Addr} {sp : Sp} {E' : XK} {dvs : List V} (h1 : EvD K te ro ka w k1) (h2 : EvX0 K tf ro k1 E C1 k2) : EvX0 K (tCall sp dvs E' (tCons te (tCons tf tr))) ro ka E C1 k2 := fun B F0 ta sg H Q e q =>
  h1 B F0 ta sg H _ e fun _ _ e1 => h2 B F0 _ sg _ _ e1 fun H' e' => q H' e'.pop
theorem evx_arg2' {K : PySem.W.Frag} {ro : Ro} {ka k1 k2 : Cells} {te tf : TE} {tr : TA} {w : W} {E : XK} {C1 : Addr} {gs : List (Str × D)} {sp : Sp} {E' : XK} {dvs : List V} (h1 : EvD K te ro ka w k1) (h2 : EvX K tf ro k1 E C1 gs k2) : EvX K (tCall sp dvs E' (tCons te (tCons tf tr))) ro ka E C1 gs k2 := evx_arg2 h1 h2
theorem evr_isN {K : PySem.W.Frag} {ro : Ro} {ka : Cells} {te : TE} {P : W → Cells → Prop} (h : EvR K te ro ka P) (hP : ∀ w k, P w k → ∃ d, w = .val d) : EvR K (tOp rIsN te (tC .non)) ro ka (fun w k => ∃ d, P (.val d) k ∧ w = .val (.bl (isNonD d))) := fun B F0 ta sg H Q e q => h B F0 ta sg H _ e fun w k v H' p e' => by
  obtain ⟨d, rfl⟩ := hP w k p
  refine ⟨rfl, ?_⟩
  rw [e'.isN List.mem_cons_self (.inl rfl)]
  exact q _ k _ _ ⟨d, p, rfl⟩ (e'.pop.push_imm fun _ => rfl)
def ct_within (K : PySem.W.Frag) : Ct := Ct2 fun a b ka out => ∃ r1 r2 c, RsR K a r1 ∧ RsR K b r2 ∧ (∀ t u, r1 = .tr t → r2 = .tr u → LpOk t u c) ∧ ka = [] ∧ out = rs2 K (fun o k => k = [] ∧ ∃ d, o = .ret d) r1 r2
section
variable {P : Program} {w : World} {K : PySem.W.Frag} {mg : Str → Option Value} {base : Heap}
theorem ok_within (T : Tx K mg) (F_least_parting : Fn P w K mg base 8 (He.ga K "least_parting") ["one", "two", "is_one_sided"] (ct_least_parting K)) (F_machine_of : Fn P w K mg base 26 (He.ga K "machine_of") ["thing"] (ct_machine_of K)) : Fn P w K mg base 28 (He.ga K "within") ["one", "two"] (ct_within K) := by
  obtain ⟨fd, F⟩ := T.d_within
  refine fn_ok F sc_within (fun _ _ _ _ _ _ us hl => match us, hl with | [_, _], _ => rfl) ct2_len (fun cdv A outer s H E hr => ⟨_, (pss_cons (ps_set (i := 2) sc_within.nd rfl (by first | exact Or.inl rfl | exact Or.inr rfl) (pe_call (F_machine_of.up (by decide)).ok hr rfl T.g_machine_of.1 T.g_machine_of.2 (F_machine_of.up (by decide)).bn .nil (pass_own rfl rfl rfl rfl) (pa_cons (pv 0) pa_nil)))
      (pss_one (ps_ret (pe_cmpR op_isN1 (pe_call (F_least_parting.up (by decide)).ok hr rfl T.g_least_parting.1 T.g_least_parting.2 (F_least_parting.up (by decide)).bn .nil (pass_own rfl rfl rfl rfl) (pa_cons (pv 2) (pa_cons (pe_call (F_machine_of.up (by decide)).ok hr rfl T.g_machine_of.1 T.g_machine_of.2 (F_machine_of.up (by decide)).bn .nil (pass_own rfl rfl rfl rfl) (pa_cons (pv 1) pa_nil)) (pa_cons pe_bl pa_nil)))) pe_non (nomark _))))), fun ws ka out B F0 Q hC hR hX => ?_⟩)
  obtain ⟨a, b, rfl, r1, r2, c, ha, hb, lp, rfl, rfl⟩ := hC
  match r1, ha, lp, hX, hR with
  | .em, ha, _, hX, _ => exact q_asgP0 hX (evx0_call (k2 := []) (kr := []) (k3 := []) (ea1 (ev_var rfl)) ⟨_, rfl, ha _, rfl⟩ rfl) ⟨rfl, rfl⟩
  | .bd d, ha, _, hX, _ => exact q_asgP hX (evx_call (k2 := []) (kr := []) (k3 := []) (ea1 (ev_var rfl)) ⟨_, rfl, ha _, rfl⟩ rfl) ⟨rfl, rfl⟩
  | .tr t, ha, lp, hX, hR =>
    refine q_asg (ev_callP (ea1 (ev_var rfl)) ⟨_, rfl, ha _, rfl⟩) ?_
    match r2, hb, lp, hX, hR with
    | .em, hb, _, hX, _ => exact g_retP0 hX (evx0_opL (evx0_arg2 (ev_var rfl) (evx0_call (k2 := []) (kr := []) (k3 := []) (ea1 (ev_var rfl)) ⟨_, rfl, hb _, rfl⟩ rfl))) ⟨rfl, rfl⟩
    | .bd d, hb, _, hX, _ => exact g_retPX hX (evx_opL (evx_arg2' (ev_var rfl) (evx_call (k2 := []) (kr := []) (k3 := []) (ea1 (ev_var rfl)) ⟨_, rfl, hb _, rfl⟩ rfl))) ⟨rfl, rfl⟩
    | .tr u, hb, lp, _, hR =>
      refine g_retE hR (evr_isN (evr_call (k1 := []) [] (ea3 (ev_var rfl) (ev_callP (ea1 (ev_var rfl)) ⟨_, rfl, hb _, rfl⟩) ev_bl) ⟨_, _, _, rfl, t, u, true, c, rfl, rfl, rfl, lp t u rfl rfl, rfl, rfl⟩ (fun o k ⟨_, r, e, _⟩ => ⟨_, e⟩)) (fun w k ⟨d, k2, _, e, _⟩ => ⟨d, e⟩)) ?_
      rintro w k ⟨d, ⟨d2, k2, ⟨rfl, r, e, hp, _⟩, e3, rfl⟩, rfl⟩
      exact ⟨_, rfl, rfl, _, rfl⟩
end
def ct_parting (K : PySem.W.Frag) : Ct := Ct2 fun a b ka out => ∃ r1 r2 c, RsR K a r1 ∧ RsR K b r2 ∧ (∀ t u, r1 = .tr t → r2 = .tr u → LpOk t u c) ∧ ka = [] ∧ out = rs2 K (fun o k => k = [] ∧ ∃ d, o = .ret d) r1 r2
section
variable {P : Program} {w : World} {K : PySem.W.Frag} {mg : Str → Option Value} {base : Heap}
theorem ok_parting (T : Tx K mg) (F_least_parting : Fn P w K mg base 8 (He.ga K "least_parting") ["one", "two", "is_one_sided"] (ct_least_parting K)) (F_machine_of : Fn P w K mg base 26 (He.ga K "machine_of") ["thing"] (ct_machine_of K)) : Fn P w K mg base 28 (He.ga K "parting") ["one", "two"] (ct_parting K) := by
  obtain ⟨fd, F⟩ := T.d_parting
  refine fn_ok F sc_parting (fun _ _ _ _ _ _ us hl => match us, hl with | [_, _], _ => rfl) ct2_len (fun cdv A outer s H E hr => ⟨_, (pss_cons (ps_set (i := 2) sc_parting.nd rfl (by first | exact Or.inl rfl | exact Or.inr rfl) (pe_call (F_machine_of.up (by decide)).ok hr rfl T.g_machine_of.1 T.g_machine_of.2 (F_machine_of.up (by decide)).bn .nil (pass_own rfl rfl rfl rfl) (pa_cons (pv 0) pa_nil)))
      (pss_one (ps_ret (pe_call (F_least_parting.up (by decide)).ok hr rfl T.g_least_parting.1 T.g_least_parting.2 (F_least_parting.up (by decide)).bn .nil (pass_own rfl rfl rfl rfl) (pa_cons (pv 2) (pa_cons (pe_call (F_machine_of.up (by decide)).ok hr rfl T.g_machine_of.1 T.g_machine_of.2 (F_machine_of.up (by decide)).bn .nil (pass_own rfl rfl rfl rfl) (pa_cons (pv 1) pa_nil)) (pa_cons pe_bl pa_nil))))))), fun ws ka out B F0 Q hC hR hX => ?_⟩)
  obtain ⟨a, b, rfl, r1, r2, c, ha, hb, lp, rfl, rfl⟩ := hC
  match r1, ha, lp, hX, hR with
  | .em, ha, _, hX, _ => exact q_asgP0 hX (evx0_call (k2 := []) (kr := []) (k3 := []) (ea1 (ev_var rfl)) ⟨_, rfl, ha _, rfl⟩ rfl) ⟨rfl, rfl⟩
  | .bd d, ha, _, hX, _ => exact q_asgP hX (evx_call (k2 := []) (kr := []) (k3 := []) (ea1 (ev_var rfl)) ⟨_, rfl, ha _, rfl⟩ rfl) ⟨rfl, rfl⟩
  | .tr t, ha, lp, hX, hR =>
    refine q_asg (ev_callP (ea1 (ev_var rfl)) ⟨_, rfl, ha _, rfl⟩) ?_
    match r2, hb, lp, hX, hR with
    | .em, hb, _, hX, _ => exact g_retP0 hX (evx0_arg2 (ev_var rfl) (evx0_call (k2 := []) (kr := []) (k3 := []) (ea1 (ev_var rfl)) ⟨_, rfl, hb _, rfl⟩ rfl)) ⟨rfl, rfl⟩
    | .bd d, hb, _, hX, _ => exact g_retPX hX (evx_arg2' (ev_var rfl) (evx_call (k2 := []) (kr := []) (k3 := []) (ea1 (ev_var rfl)) ⟨_, rfl, hb _, rfl⟩ rfl)) ⟨rfl, rfl⟩
    | .tr u, hb, lp, _, hR =>
      exact g_retS [] hR (ea3 (ev_var rfl) (ev_callP (ea1 (ev_var rfl)) ⟨_, rfl, hb _, rfl⟩) ev_bl) (k1 := []) ⟨_, _, _, rfl, t, u, false, c, rfl, rfl, rfl, lp t u rfl rfl, rfl, rfl⟩ (fun o k ⟨_, r, e, _⟩ => ⟨_, e⟩) (fun d k ⟨e, h⟩ => by subst e; exact ⟨rfl, d, rfl⟩)
end
/-- a round, its lanes -/
abbrev RD (K : PySem.W.Frag) (ds : List D) : D := .ins (He.ga K "Round") [("line", .tup ds)]
/-- how Round(..) of a row of things ends -/
def rdOut (K : PySem.W.Frag) (p : Addr) (ds : List D) : Oc := match apR ds with
  | .em => X0 (He.ga K "EmptyWalk") []
  | .bd d => Xt (He.ga K "BadName") [("name", d)] []
  | .tr _ => Rt .non [(p, .ins (He.ga K "Round") [("line", .tup ds)])]
theorem ap_none2 {d : D} {r : List D} (h : (d :: r).find? (fun d => !isNmD d) = none) : apR (d :: r) = .tr (wdT (strN d) (r.map strN)) := by unfold apR; rw [h]
theorem ap_some2 {d e : D} {r : List D} (h : (d :: r).find? (fun d => !isNmD d) = some e) : apR (d :: r) = .bd e := by unfold apR; rw [h]
def ct_Round___init (K : PySem.W.Frag) : Ct := Ct2 fun s a ka out => ∃ p ds, s = .val (.adr p) ∧ ka = [(p, .ins (He.ga K "Round") [])] ∧ a = .val (.lst ds) ∧ (∀ d ∈ ds, nmOk d) ∧ out = rdOut K p ds
/-- Round(..) of names -/
theorem ev_roundR {K : PySem.W.Frag} {ro : Ro} {te : TE} {ds : List D} {E : XK} {u : Tr} (h : EvD K te ro [] (.val (.lst ds)) []) (hd : ∀ d ∈ ds, nmOk d) (hr : apR ds = .tr u) :
    EvD K (tMake (He.ga K "Round") (spC K (ct_Round___init K)) [] E (tCons te tNil)) ro [] (.val (RD K ds)) [] :=
  (evn_make (k1 := []) (ea1 h) fun a => ⟨_, ⟨_, _, rfl, a, ds, rfl, rfl, rfl, hd, by unfold rdOut; rw [hr]; rfl⟩, fun _ _ z => z⟩).ins
section
variable {P : Program} {w : World} {K : PySem.W.Frag} {mg : Str → Option Value} {base : Heap}
theorem ok_Round___init (T : Tx K mg) (F_check_lanes : Fn P w K mg base 6 (He.ga K "check_lanes") ["lanes"] (ct_check_lanes K)) : Fn P w K mg base 8 (He.ma K (He.ga K "Round") "__init__") ["self", "lanes"] (ct_Round___init K) := by
  obtain ⟨fd, F⟩ := T.d_Round___init
  refine fn_ok F sc_Round___init (fun _ _ _ _ _ _ us hl => match us, hl with | [_, _], _ => rfl) ct2_len (fun cdv A outer s H E hr => ⟨_, (pss_cons (ps_expr (pe_call (F_check_lanes.up (by decide)).ok hr rfl T.g_check_lanes.1 T.g_check_lanes.2 (F_check_lanes.up (by decide)).bn .nil (pass_own rfl rfl rfl rfl) (pa_cons (pv 1) pa_nil)))
      (pss_one (ps_fld (pv 0) (pe_callTy call_tupU rfl T.n_tuple (by decide +kernel) (pa_cons (pv 1) pa_nil)) rfl))), fun ws ka out B F0 Q hC hR hX => ?_⟩)
  obtain ⟨s1, a, rfl, p, ds, rfl, rfl, rfl, hd, rfl⟩ := hC
  match ds, hd, hX, hR with
  | [], _, hX, _ => exact Gp.less (k1 := []) (q_dropP0 hX (evx0_call (k2 := []) (kr := []) (k3 := []) (ea1 (ev_var rfl)) ⟨_, rfl, false, [], false, .vl, .inl rfl, (fun _ h => by cases h), rfl⟩ rfl) ⟨rfl, rfl⟩) (List.nil_sublist _)
  | d :: r, hd, hX, hR =>
    cases h : (d :: r).find? (fun d => !isNmD d) with
    | some e =>
      have ex : rdOut K p (d :: r) = Xt (He.ga K "BadName") [("name", e)] [] := by unfold rdOut; rw [ap_some2 h]
      rw [ex] at hX
      exact Gp.less (k1 := []) (q_dropP hX (evx_call (k2 := []) (kr := []) (k3 := []) (ea1 (ev_var rfl)) ⟨_, rfl, false, _, false, .vl, .inl rfl, hd, (ck_bad h).symm⟩ rfl) ⟨rfl, rfl⟩) (List.nil_sublist _)
    | none =>
      have ex : rdOut K p (d :: r) = Rt .non [(p, .ins (He.ga K "Round") [("line", .tup (d :: r))])] := by unfold rdOut; rw [ap_none2 h]
      rw [ex] at hR
      refine q_drop (ev_callF (k1 := []) (k2 := []) (d := .non) [(p, .ins (He.ga K "Round") [])] (ea1 (ev_var rfl)) ⟨_, rfl, false, _, false, .vl, .inl rfl, hd, (ck_ok (List.cons_ne_nil _ _) (find_ok h)).symm⟩ fun _ _ z => z) ?_
      exact g_fld (fs := []) (j := 0) (a := p) (d := .tup (d :: r)) (ev_cb (ea1 (ev_var rfl)) (rc_tupL .vl (.inl rfl))) (ev_var rfl) rfl T.cl_Round T.na_Round_line (show 0 < 900 by decide) (g_end hR ⟨rfl, rfl⟩)
end
/-! ### nets as data -/
/-- a lane, its start, its end -/
abbrev Ln := Str × Str × Str
def lnD (r : Ln) : D := .tup [.str r.2.1, .str r.2.2]
def enD (es : List Ln) : List (Key × D) := es.map fun r => (.inr r.1, lnD r)
def lnN (es : List Ln) : List Str := es.map (·.1)
def NetD (K : PySem.W.Frag) (ps : List Str) (es : List Ln) : D := .ins (He.ga K "Net") [("order", .lst (stD ps)), ("ends_by_lane", .dic (enD es))]
def NetC (K : PySem.W.Frag) (a o d : Addr) (ps : List Str) (es : List Ln) : Cells := [(a, .ins (He.ga K "Net") [("order", .adr o), ("ends_by_lane", .adr d)]), (o, .lst (stD ps)), (d, .dic (enD es))]
theorem enD_len (es : List Ln) : (enD es).length = es.length := List.length_map _
theorem enD_app (es fs : List Ln) : enD (es ++ fs) = enD es ++ enD fs := List.map_append
theorem enD_get {es : List Ln} (hn : (lnN es).Nodup) {i : Nat} {r : Ln} (h : es[i]? = some r) : getT (enD es) (.inr r.1) = some (lnD r) := by
  induction es generalizing i with
  | nil => cases h
  | cons x l ih =>
    have hn2 := List.nodup_cons.mp hn
    unfold getT enD
    rw [List.map_cons, List.find?_cons]
    cases i with
    | zero =>
      cases h
      rw [decide_eq_true rfl]
      rfl
    | succ i =>
      have hm : r.1 ∈ lnN l := List.mem_map.mpr ⟨r, List.mem_of_getElem? (by simpa using h), rfl⟩
      have ne : ¬ (Sum.inr x.1 : Int ⊕ Str) = .inr r.1 := fun z => hn2.1 (by have e := Sum.inr.inj z; have hm' : r.1 ∈ l.map (fun x : Ln => x.1) := hm; rw [← e] at hm'; exact hm')
      rw [show decide ((Sum.inr x.1 : Int ⊕ Str) = .inr r.1) = false from decide_eq_false ne]
      exact ih hn2.2 (by simpa using h)
theorem enD_has {es : List Ln} {s : Str} : hasT (enD es) (.inr s) = decide (s ∈ lnN es) := by
  unfold hasT enD lnN
  rw [List.any_map, Bool.eq_iff_iff, List.any_eq_true, decide_eq_true_eq, List.mem_map]
  constructor
  · rintro ⟨r, h1, h2⟩
    exact ⟨r, h1, Sum.inr.inj (of_decide_eq_true h2)⟩
  · rintro ⟨r, h1, h2⟩
    exact ⟨r, h1, decide_eq_true (congrArg Sum.inr h2)⟩
theorem getT_some {κ α : Type} [DecidableEq κ] (kvs : List (κ × α)) (k : κ) : (getT kvs k).isSome = hasT kvs k := by
  unfold getT hasT
  rw [Option.isSome_map]
  induction kvs with
  | nil => rfl
  | cons x l ih =>
    rw [List.find?_cons, List.any_cons]
    cases h : decide (x.1 = k) with
    | true => rfl
    | false => rw [ih]; rfl
theorem enD_in (es : List Ln) (s : Str) : (getT (enD es) (.inr s)).isSome = decide (s ∈ lnN es) := (getT_some _ _).trans enD_has
theorem enD_put {es : List Ln} {r : Ln} (h : ¬ r.1 ∈ lnN es) : putT (enD es) (.inr r.1) (lnD r) = enD (es ++ [r]) := by
  unfold putT
  rw [if_neg (by rw [enD_has, decide_eq_true_eq]; exact h), enD_app]
  rfl
theorem enD_take {es : List Ln} (hn : (lnN es).Nodup) {i : Nat} {r : Ln} (h : es[i]? = some r) : putT (enD (es.take i)) (.inr r.1) (lnD r) = enD (es.take (i + 1)) := by
  rw [enD_put, take_succ_some h]
  intro hm
  have e : lnN es = lnN (es.take i) ++ (r.1 :: lnN (es.drop (i + 1))) := by
    obtain ⟨hi, rfl⟩ := List.getElem?_eq_some_iff.mp h
    unfold lnN
    have e2 : es = es.take i ++ es[i] :: es.drop (i + 1) := by rw [List.getElem_cons_drop, List.take_append_drop]
    exact (congrArg (List.map fun x : Ln => x.1) e2).trans List.map_append
  rw [e, List.nodup_append] at hn
  exact hn.2.2 _ hm _ List.mem_cons_self rfl
theorem enD_at {es : List Ln} {i : Nat} {kv : Key × D} (h : (enD es)[i]? = some kv) : ∃ r, es[i]? = some r ∧ kv = (.inr r.1, lnD r) := by
  unfold enD at h
  rw [List.getElem?_map] at h
  obtain ⟨r, h1, h2⟩ := Option.map_eq_some_iff.mp h
  exact ⟨r, h1, h2.symm⟩
def ct_Net___init (K : PySem.W.Frag) : Ct := Ct3 fun s o e ka out => ∃ a t b ps es, s = .val (.adr a) ∧ ka = [(a, .ins (He.ga K "Net") [])] ∧ Lk ka o t (stD ps) b ∧ ps.length ≤ 50000 ∧ es.length ≤ 50000 ∧ (lnN es).Nodup ∧ ((e = .val .non ∧ es = []) ∨ e = .val (.dic (enD es))) ∧
  out = fun o' k => ∃ o d, o' = .ret .non ∧ k = NetC K a o d ps es
section
variable {P : Program} {w : World} {K : PySem.W.Frag} {mg : Str → Option Value} {base : Heap}
theorem ok_Net___init (T : Tx K mg) : FnE P w K mg base 4 (He.ma K (He.ga K "Net") "__init__") ["self", "order", "ends_by_lane"] [.ref (He.dflAt ("Net", some "__init__") 0 K), .non] (ct_Net___init K) := by
  obtain ⟨fd, F⟩ := T.d_Net___init
  refine fn_okE F sc_Net___init (F.binds1 1 0 (by simp) rfl fun _ _ _ _ _ _ _ us its hu hi => match us, its, hu, hi with | [_], [_, _], _, _ => ⟨_, rfl, rfl⟩) (F.binds1 3 2 (by simp) rfl fun _ _ _ _ _ _ _ us its hu hi => match us, its, hu, hi with | [_, _, _], [_, _], _, _ => ⟨_, rfl, rfl⟩) ct3_len (fun cdv A outer s H E hr => ⟨_, (pss_cons (ps_set (i := 3) sc_Net___init.nd rfl (by first | exact Or.inl rfl | exact Or.inr rfl) (pe_ifExp (pt_cmpR op_isN1 (pv 2) pe_non (nomark _)) pe_dnewK (pv 2)))
      (pss_cons (ps_fld (pv 0) (pe_callTy call_lstU rfl T.n_list (by decide +kernel) (pa_cons (pv 1) pa_nil)) rfl)
      (pss_one (ps_fld (pv 0) (pe_lkE (pe_dc (tk := (tVar 4)) (tv := (tDGet (tVar 3) (tVar 4))) (tt := tYes) (own := [("lane", 4)]) rfl sc_Net___init.nd (pi_keys (pv 3)) (blk_ok ["self", "order", "ends_by_lane", "known", "lane"] (defScope s_Net___init) rfl rfl (by decide +kernel)) (fun _ _ _ _ _ => (pg_name (i := 4) sc_Net___init.nd rfl (by first | exact Or.inl rfl | exact Or.inr rfl))) (fun _ _ _ _ _ => pts_nil) (fun _ _ _ _ _ => (pv 4)) (fun _ _ _ _ _ => (pe_dget (hu1 hr) (pv 3) (pv 4) fun _ _ => rfl)))) rfl)))), fun ws ka out B F0 Q hC hR hX => ?_⟩)
  obtain ⟨s, o, e, rfl, a, t, b, ps, es, rfl, rfl, lo, hps, hes, hn, he, rfl⟩ := hC
  have main : Gp K B F0 [] (tSeq (sFld K (tVar 0) (tCB (rLstU K) (tCons (tVar 1) tNil)) "order") (sFld K (tVar 0) (tLkE (tDc (iKeys (tVar 3)) (gName 4) tYes (tVar 4) (tDGet (tVar 3) (tVar 4)) [4])) "ends_by_lane") { nx := fun _ H' => Q .non H', rt := Q })
      [some (.val (.adr a)), some o, some e, some (.val (.dic (enD es))), none] [(a, .ins (He.ga K "Net") [])] := by
    refine q_fldR (C := He.ga K "Net") (a := a) (evn_cb (ea1 (ev_var rfl)) (rcn_lst lo (sqf_stD b ps))).toR T.cl_Net T.na_Net_order (fun w k1 ⟨p, h1, h2⟩ => ⟨.adr p, k1, 0, [], h1, ev_var rfl, by rw [h2]; rfl, by decide, ?_⟩)
    subst h2
    refine g_fldR (C := He.ga K "Net") (a := a) (evr_dcK (evp_var rfl) (by simp) (by rw [enD_len]; omega) (fun i acc k => acc = enD (es.take i) ∧ k = [(a, .ins (He.ga K "Net") [("order", .adr p)]), (p, .lst (stD ps))]) ⟨rfl, rfl⟩ (fun i kv acc k hk ⟨e1, e2⟩ => ?_)).toR T.cl_Net T.na_Net_ends_by_lane (fun w k1 ⟨d, n, k0, h1, ⟨acc, h2, h3, h4⟩, h5⟩ => ⟨.adr d, k1, 0, [("order", .adr p)], h1, ev_var rfl, by rw [h5, h4]; rfl, (show 1 < 900 by decide), ?_⟩)
    · obtain ⟨r, hr1, rfl⟩ := enD_at hk
      subst e1 e2
      exact .inr ⟨_, _, _, .inr r.1, lnD r, et_yes, ev_var rfl, ev_dgetV (ev_var rfl) (ev_var rfl) .v (enD_get hn hr1), enD_take hn hr1, rfl⟩
    · subst h5 h4 h2 h3
      rw [enD_len, List.take_length]
      exact g_end hR ⟨p, d, rfl, rfl⟩
  rcases he with ⟨rfl, rfl⟩ | rfl
  · exact q_asgR (evr_ifT ((et_test (ev_isN (ev_var rfl))).to rfl) evn_dnew.toR) fun w k1 ⟨a1, h1, h2⟩ => by
      subst h1 h2
      exact Gp.frzK (i := 3) rfl (List.Perm.refl _) main
  · exact q_asg (ev_ifF ((et_test (ev_isN (ev_var rfl))).to rfl) (ev_var rfl)) main
end
/-- w is a net: its two fields -/
structure NetW (K : PySem.W.Frag) (ka : Cells) (s : W) (ps : List Str) (es : List Ln) : Prop where
  as : s = .val (NetD K ps es) ∨ ∃ a o d, s = .val (.adr a) ∧ ka = NetC K a o d ps es
theorem NetW.order {K : PySem.W.Frag} {ka : Cells} {s : W} {ps : List Str} {es : List Ln} {te : TE} {ro : Ro} (h : NetW K ka s ps es) (c : Cls K (He.ga K "Net")) (nf : NoAttr K (He.ga K "Net") "order") (he : EvD K te ro ka s ka) :
    ∃ x, EvD K (tFld K te "order") ro ka x ka ∧ Lk ka x false (stD ps) false := by
  rcases h.as with rfl | ⟨a, o, d, rfl, rfl⟩
  · exact ⟨_, ev_fld he .v c nf rfl, .vl⟩
  · exact ⟨_, ev_fld he (.c 0 rfl) c nf rfl, .ce 1 rfl⟩
def ct_Net_posts (K : PySem.W.Frag) : Ct := Ct1 fun s ka out => ∃ ps es, NetW K ka s ps es ∧ out = Rt (.tup (stD ps)) ka
section
variable {P : Program} {w : World} {K : PySem.W.Frag} {mg : Str → Option Value} {base : Heap}
theorem ok_Net_posts (T : Tx K mg) : Fn P w K mg base 4 (pga K (He.ga K "Net") "posts") ["self"] (ct_Net_posts K) := by
  obtain ⟨fd, F⟩ := T.d_Net_posts
  refine fn_ok F sc_Net_posts (fun _ _ _ _ _ _ us hl => match us, hl with | [_], _ => rfl) ct1_len (fun cdv A outer s H E hr => ⟨_, (pss_one (ps_ret (pe_callTy call_tupU rfl T.n_tuple (by decide +kernel) (pa_cons (pe_fld (pv 0) rfl) pa_nil)))), fun ws ka out B F0 Q hC hR hX => ?_⟩)
  obtain ⟨s, rfl, ps, es, h, rfl⟩ := hC
  obtain ⟨x, h1, h2⟩ := h.order T.cl_Net T.na_Net_order (te := tVar 0) (ro := [some s]) (ev_var rfl)
  exact g_ret hR (ev_cb (ea1 h1) (rc_tupL h2 (sqf_stD _ _))) ⟨rfl, rfl⟩
end
def ct_Net_lanes (K : PySem.W.Frag) : Ct := Ct1 fun s ka out => ∃ ps es, s = .val (NetD K ps es) ∧ es.length ≤ 50000 ∧ ka = [] ∧ out = Rt (.tup (stD (lnN es))) []
section
variable {P : Program} {w : World} {K : PySem.W.Frag} {mg : Str → Option Value} {base : Heap}
theorem ok_Net_lanes (T : Tx K mg) : Fn P w K mg base 4 (pga K (He.ga K "Net") "lanes") ["self"] (ct_Net_lanes K) := by
  obtain ⟨fd, F⟩ := T.d_Net_lanes
  refine fn_ok F sc_Net_lanes (fun _ _ _ _ _ _ us hl => match us, hl with | [_], _ => rfl) ct1_len (fun cdv A outer s H E hr => ⟨_, (pss_one (ps_ret (pe_callTy call_tupU rfl T.n_tuple (by decide +kernel) (pa_cons (pe_lkE (pe_lc (te := (tVar 1)) (tt := tYes) (own := [("lane", 1)]) rfl sc_Net_lanes.nd (pi_keys (pe_fld (pv 0) rfl)) (blk_ok ["self", "lane"] (defScope s_Net_lanes) rfl rfl (by decide +kernel)) (fun _ _ _ _ _ => (pg_name (i := 1) sc_Net_lanes.nd rfl (by first | exact Or.inl rfl | exact Or.inr rfl))) (fun _ _ _ _ _ => pts_nil) (fun _ _ _ _ _ => (pv 1)))) pa_nil)))), fun ws ka out B F0 Q hC hR hX => ?_⟩)
  obtain ⟨s, rfl, ps, es, rfl, hl, rfl, rfl⟩ := hC
  refine g_ret hR (ev_cb (ea1 ((evr_lcK (evp_fld (evp_var rfl) T.cl_Net T.na_Net_ends_by_lane rfl) (by decide) (by rw [enD_len]; omega) (fun i acc k => acc = stD (lnN (es.take i)) ∧ k = []) ⟨rfl, rfl⟩ (fun i kv acc k hk ⟨e1, e2⟩ => ?_)).lstD (ds := stD (lnN es)) fun n k ⟨acc, e1, e2, e3⟩ => ⟨?_, e3⟩)) (rc_tupL .vl (.inl rfl))) ⟨rfl, rfl⟩
  all_goals first
    | (rw [e1, e2, enD_len, List.take_length]; done)
    | (subst e1 e2
       obtain ⟨r, hr2, rfl⟩ := enD_at hk
       refine .inr ⟨_, _, .str r.1, et_yes, ev_var rfl, ?_, rfl⟩
       rw [take_succ_some hr2]
       have e : lnN (es.take i ++ [r]) = lnN (es.take i) ++ [r.1] := List.map_append
       rw [e, ← stD_app]
       rfl)
end
/-- how post ends -/
def poO (K : PySem.W.Frag) (a o d : Addr) (ps : List Str) (es : List Ln) (x : D) : Oc :=
  if isNmD x = false then Xt (He.ga K "BadName") [("name", x)] (NetC K a o d ps es)
  else match x with
    | .str s => if s ∈ ps then Xt (He.ga K "NameTaken") [("name", x)] (NetC K a o d ps es) else Rt .non (NetC K a o d (ps ++ [s]) es)
    | _ => fun _ _ => True
def ct_Net_post (K : PySem.W.Frag) : Ct := Ct2 fun s b ka out => ∃ a o d ps es x, s = .val (.adr a) ∧ b = .val x ∧ nmOk x ∧ ps.length < 50000 ∧ ka = NetC K a o d ps es ∧ out = poO K a o d ps es x
section
variable {P : Program} {w : World} {K : PySem.W.Frag} {mg : Str → Option Value} {base : Heap}
theorem ok_Net_post (T : Tx K mg) (F_is_name : Fn P w K mg base 4 (He.ga K "is_name") ["word"] (ct_is_name K)) (Z_BadName : Xn P w K mg base (He.ga K "BadName") "name") (Z_NameTaken : Xn P w K mg base (He.ga K "NameTaken") "name") : Fn P w K mg base 6 (He.ma K (He.ga K "Net") "post") ["self", "name"] (ct_Net_post K) := by
  obtain ⟨fd, F⟩ := T.d_Net_post
  refine fn_ok F sc_Net_post (fun _ _ _ _ _ _ us hl => match us, hl with | [_, _], _ => rfl) ct2_len (fun cdv A outer s H E hr => ⟨_, (pss_cons (ps_if (pt_not (pt_val (pe_call (F_is_name.up (by decide)).ok hr rfl T.g_is_name.1 T.g_is_name.2 (F_is_name.up (by decide)).bn .nil (pass_own rfl rfl rfl rfl) (pa_cons (pv 1) pa_nil))))
      (pss_one (ps_raise rfl (takes_of rfl rfl rfl rfl) (pmk_oex Z_BadName.xc.oex Z_BadName.all.1 Z_BadName.all.2.1 Z_BadName.all.2.2.1 (hr.mono (by decide)) Z_BadName.all.2.2.2 .nil passes_no rfl T.g_BadName.1 (pa_cons (pv 1) pa_nil))))
      pss_nil)
      (pss_cons (ps_if (pt_cmpR op_inU (pv 1) (pe_fld (pv 0) rfl) (by with_unfolding_all rfl))
      (pss_one (ps_raise rfl (takes_of rfl rfl rfl rfl) (pmk_oex Z_NameTaken.xc.oex Z_NameTaken.all.1 Z_NameTaken.all.2.1 Z_NameTaken.all.2.2.1 (hr.mono (by decide)) Z_NameTaken.all.2.2.2 .nil passes_no rfl T.g_NameTaken.1 (pa_cons (pv 1) pa_nil))))
      pss_nil)
      (pss_one (ps_expr (pe_bm PySem.F.plainAttrs_list PySem.F.slot_list_append PySem.F.type_list_append mt_append (pe_fld (pv 0) rfl) (pa_cons (pv 1) pa_nil)))))), fun ws ka out B F0 Q hC hR hX => ?_⟩)
  obtain ⟨s, b, rfl, a, o, d, ps, es, x, rfl, rfl, hx, hl, rfl, rfl⟩ := hC
  refine q_when (et_not (et_B (ev_callP (ea1 (ev_var rfl)) ⟨_, rfl, x, rfl, hx, rfl, rfl⟩))) (fun hb => g_raise1 hX (ea1 (ev_var rfl)) Z_BadName.xc.oex Z_BadName.no ?_) (fun hb => ?_)
  · rw [Bool.not_eq_true'] at hb
    unfold poO
    rw [if_pos hb]
    exact ⟨rfl, rfl⟩
  rw [Bool.not_eq_false'] at hb
  have hs : ∃ s, x = .str s := by
    cases x with
    | str s => exact ⟨s, rfl⟩
    | _ => cases hb
  obtain ⟨s, rfl⟩ := hs
  have fo : ∀ {ro : Ro}, ro[0]? = some (some (.val (.adr a))) → EvD K (tFld K (tVar 0) "order") ro (NetC K a o d ps es) (.val (.adr o)) (NetC K a o d ps es) := fun h => ev_fld (ev_var h) (.c 0 rfl) T.cl_Net T.na_Net_order rfl
  refine q_when (et_test (ev_inL (ev_var rfl) (fo rfl) (.ce 1 rfl))) (fun hm => g_raise1 hX (ea1 (ev_var rfl)) Z_NameTaken.xc.oex Z_NameTaken.no ?_) (fun hm => ?_)
  · rw [decide_eq_true_eq] at hm
    unfold poO
    rw [if_neg (by rw [hb]; decide)]
    show (if s ∈ ps then _ else _ : Oc) _ _
    rw [if_pos hm]
    exact ⟨rfl, rfl⟩
  · rw [decide_eq_false_iff_not] at hm
    refine g_app (j0 := 1) (j := 1) (fo rfl) rfl (ev_var rfl) rfl (by rw [stD_len]; omega) (g_end hR ?_)
    unfold poO
    rw [if_neg (by rw [hb]; decide)]
    show (if s ∈ ps then _ else _ : Oc) _ _
    rw [if_neg hm]
    refine ⟨rfl, ?_⟩
    unfold NetC
    rw [← stD_app]
    rfl
end
/-- how lane ends -/
def laO (K : PySem.W.Frag) (a o d : Addr) (ps : List Str) (es : List Ln) (x : D) (st en : Str) : Oc :=
  if isNmD x = false then Xt (He.ga K "BadName") [("name", x)] (NetC K a o d ps es)
  else match x with
    | .str s => if s ∈ lnN es then Xt (He.ga K "NameTaken") [("name", x)] (NetC K a o d ps es) else if ¬ st ∈ ps then Xt (He.ga K "NoPost") [("name", .str st)] (NetC K a o d ps es) else if ¬ en ∈ ps then Xt (He.ga K "NoPost") [("name", .str en)] (NetC K a o d ps es)
      else Rt .non (NetC K a o d ps (es ++ [(s, st, en)]))
    | _ => fun _ _ => True
def ct_Net_lane (K : PySem.W.Frag) : Ct := Ct4 fun s b c e ka out => ∃ a o d ps es x st en, s = .val (.adr a) ∧ b = .val x ∧ nmOk x ∧ c = .val (.str st) ∧ e = .val (.str en) ∧ es.length < 50000 ∧ ka = NetC K a o d ps es ∧ out = laO K a o d ps es x st en
section
variable {P : Program} {w : World} {K : PySem.W.Frag} {mg : Str → Option Value} {base : Heap}
theorem ok_Net_lane (T : Tx K mg) (F_is_name : Fn P w K mg base 4 (He.ga K "is_name") ["word"] (ct_is_name K)) (Z_BadName : Xn P w K mg base (He.ga K "BadName") "name") (Z_NameTaken : Xn P w K mg base (He.ga K "NameTaken") "name") (Z_NoPost : Xn P w K mg base (He.ga K "NoPost") "name") : Fn P w K mg base 6 (He.ma K (He.ga K "Net") "lane") ["self", "name", "start", "end"] (ct_Net_lane K) := by
  obtain ⟨fd, F⟩ := T.d_Net_lane
  refine fn_ok F sc_Net_lane (fun _ _ _ _ _ _ us hl => match us, hl with | [_, _, _, _], _ => rfl) ct4_len (fun cdv A outer s H E hr => ⟨_, (pss_cons (ps_if (pt_not (pt_val (pe_call (F_is_name.up (by decide)).ok hr rfl T.g_is_name.1 T.g_is_name.2 (F_is_name.up (by decide)).bn .nil (pass_own rfl rfl rfl rfl) (pa_cons (pv 1) pa_nil))))
      (pss_one (ps_raise rfl (takes_of rfl rfl rfl rfl) (pmk_oex Z_BadName.xc.oex Z_BadName.all.1 Z_BadName.all.2.1 Z_BadName.all.2.2.1 (hr.mono (by decide)) Z_BadName.all.2.2.2 .nil passes_no rfl T.g_BadName.1 (pa_cons (pv 1) pa_nil))))
      pss_nil)
      (pss_cons (ps_if (pt_cmp (pc_din (hu1 hr) (pv 1) (pe_fld (pv 0) rfl)) (by with_unfolding_all rfl))
      (pss_one (ps_raise rfl (takes_of rfl rfl rfl rfl) (pmk_oex Z_NameTaken.xc.oex Z_NameTaken.all.1 Z_NameTaken.all.2.1 Z_NameTaken.all.2.2.1 (hr.mono (by decide)) Z_NameTaken.all.2.2.2 .nil passes_no rfl T.g_NameTaken.1 (pa_cons (pv 1) pa_nil))))
      pss_nil)
      (pss_cons (ps_for (passes_of rfl) rfl (pi_seq (pe_tup (pa_cons (pv 2) (pa_cons (pv 3) pa_nil)))) (pg_name (i := 4) sc_Net_lane.nd rfl (by first | exact Or.inl rfl | exact Or.inr rfl)) (pss_one (ps_if (pt_cmpR op_niU (pv 4) (pe_fld (pv 0) rfl) (by with_unfolding_all rfl))
      (pss_one (ps_raise rfl (takes_of rfl rfl rfl rfl) (pmk_oex Z_NoPost.xc.oex Z_NoPost.all.1 Z_NoPost.all.2.1 Z_NoPost.all.2.2.1 (hr.mono (by decide)) Z_NoPost.all.2.2.2 .nil passes_no rfl T.g_NoPost.1 (pa_cons (pv 4) pa_nil))))
      pss_nil)))
      (pss_one (ps_dput (hu1 hr) (pe_fld (pv 0) rfl) (pv 1) (pe_tup (pa_cons (pv 2) (pa_cons (pv 3) pa_nil))) rfl))))), fun ws ka out B F0 Q hC hR hX => ?_⟩)
  obtain ⟨s, b, c, e, rfl, a, o, d, ps, es, x, st, en, rfl, rfl, hx, rfl, rfl, hl, rfl, rfl⟩ := hC
  refine q_when (et_not (et_B (ev_callP (ea1 (ev_var rfl)) ⟨_, rfl, x, rfl, hx, rfl, rfl⟩))) (fun hb => g_raise1 hX (ea1 (ev_var rfl)) Z_BadName.xc.oex Z_BadName.no ?_) (fun hb => ?_)
  · rw [Bool.not_eq_true'] at hb
    unfold laO
    rw [if_pos hb]
    exact ⟨rfl, rfl⟩
  rw [Bool.not_eq_false'] at hb
  have hs : ∃ s, x = .str s := by
    cases x with
    | str s => exact ⟨s, rfl⟩
    | _ => cases hb
  obtain ⟨s, rfl⟩ := hs
  have hb' : ¬ isNmD (.str s) = false := by rw [hb]; decide
  have fo : ∀ {ro : Ro}, ro[0]? = some (some (.val (.adr a))) → EvD K (tFld K (tVar 0) "order") ro (NetC K a o d ps es) (.val (.adr o)) (NetC K a o d ps es) := fun h => ev_fld (ev_var h) (.c 0 rfl) T.cl_Net T.na_Net_order rfl
  have fe : ∀ {ro : Ro}, ro[0]? = some (some (.val (.adr a))) → EvD K (tFld K (tVar 0) "ends_by_lane") ro (NetC K a o d ps es) (.val (.adr d)) (NetC K a o d ps es) := fun h => ev_fld (ev_var h) (.c 0 rfl) T.cl_Net T.na_Net_ends_by_lane rfl
  refine q_when (et_B ((ev_din (ev_var rfl) (fe rfl) (.ce 2 rfl)).to (by rw [enD_in]))) (fun hm => g_raise1 hX (ea1 (ev_var rfl)) Z_NameTaken.xc.oex Z_NameTaken.no ?_) (fun hm => ?_)
  · rw [decide_eq_true_eq] at hm
    unfold laO
    rw [if_neg hb']
    show (if s ∈ lnN es then _ else _ : Oc) _ _
    rw [if_pos hm]
    exact ⟨rfl, rfl⟩
  rw [decide_eq_false_iff_not] at hm
  have hO : laO K a o d ps es (.str s) st en = if ¬ st ∈ ps then Xt (He.ga K "NoPost") [("name", .str st)] (NetC K a o d ps es) else if ¬ en ∈ ps then Xt (He.ga K "NoPost") [("name", .str en)] (NetC K a o d ps es)
        else Rt .non (NetC K a o d ps (es ++ [(s, st, en)])) := by
    unfold laO
    rw [if_neg hb']
    show (if s ∈ lnN es then _ else _ : Oc) = _
    rw [if_neg hm]
  rw [hO] at hR hX
  refine q_forn (ei_seq (ev_tup (ds := [.str st, .str en]) (ea2 (ev_var rfl) (ev_var rfl)) (show 2 ≤ 100000 by decide)) .vt) (fun i ro ka' => ∃ v, ro = [some (.val (.adr a)), some (.val (.str s)), some (.val (.str st)), some (.val (.str en)), v] ∧ ka' = NetC K a o d ps es ∧ (0 < i → st ∈ ps) ∧ (1 < i → en ∈ ps)) ⟨none, rfl, rfl, fun z => absurd z (by decide), fun z => absurd z (by decide)⟩ (fun i ro2 ka2 _ => trivial) (fun i w ro2 ka2 ta' hw ⟨v, e1, e2, h1, h2⟩ => ?_) (fun ro2 ka2 ta' ⟨v, e1, e2, h1, h2⟩ _ => ?_)
  · subst e1 e2
    match i, hw with
    | 0, hw =>
      cases hw
      refine g_if (et_test (ev_niL (ev_var rfl) (fo rfl) (.ce 1 rfl))) (fun hm => g_raise1 hX (ea1 (ev_var rfl)) Z_NoPost.xc.oex Z_NoPost.no ?_) (fun hm => g_next (g_jp ⟨_, rfl, rfl, fun _ => ?_, fun z => by omega⟩))
      · rw [Bool.not_eq_true', decide_eq_false_iff_not] at hm
        rw [if_pos hm]
        exact ⟨rfl, rfl⟩
      · rw [Bool.not_eq_false', decide_eq_true_eq] at hm
        exact hm
    | 1, hw =>
      cases hw
      refine g_if (et_test (ev_niL (ev_var rfl) (fo rfl) (.ce 1 rfl))) (fun hm => g_raise1 hX (ea1 (ev_var rfl)) Z_NoPost.xc.oex Z_NoPost.no ?_) (fun hm => g_next (g_jp ⟨_, rfl, rfl, fun _ => h1 (by decide), fun _ => ?_⟩))
      · rw [Bool.not_eq_true', decide_eq_false_iff_not] at hm
        rw [if_neg (fun z => z (h1 (by decide))), if_pos hm]
        exact ⟨rfl, rfl⟩
      · rw [Bool.not_eq_false', decide_eq_true_eq] at hm
        exact hm
    | i + 2, hw => simp at hw
  · subst e1 e2
    have h1 := h1 (show 0 < 2 by decide)
    have h2 := h2 (show 1 < 2 by decide)
    refine g_dput (j := 2) (ev_tup (ds := [.str st, .str en]) (ea2 (ev_var rfl) (ev_var rfl)) (show 2 ≤ 100000 by decide)) (fe rfl) (ev_var rfl) rfl (by rw [enD_len]; omega) (g_end hR ?_)
    rw [if_neg (fun z => z h1), if_neg (fun z => z h2)]
    refine ⟨rfl, ?_⟩
    have := enD_put (r := (s, st, en)) hm
    unfold NetC
    rw [← this]
    rfl
end
theorem ev_lenK {K : PySem.W.Frag} {ro : Ro} {ka k1 : Cells} {te : TE} {p : Addr} {ns : List Int} (h : EvD K te ro ka (.val (.adr p)) k1) (hk : ∀ H, SqL K H p (ns.map V.int)) : EvD K (tCB (rLenU K) (tCons te tNil)) ro ka (.val (.int ns.length)) k1 := fun B F0 ta sg H Q e q => h B F0 ta sg H _ e fun v H1 e1 => .inl ⟨p, ns.map V.int, by rw [e1.tm_adr List.mem_cons_self], .inl (hk H1), by
  rw [List.length_map]
  exact q _ _ (e1.pop.push_imm fun _ => rfl)⟩
theorem ev_ixK {K : PySem.W.Frag} {ro : Ro} {ka k1 k2 : Cells} {te tf : TE} {p : Addr} {ns : List Int} {i : Nat} {z : Int} (h : EvD K te ro ka (.val (.adr p)) k1) (h2 : EvD K tf ro k1 (.val (.int i)) k2) (hk : ∀ H, SqL K H p (ns.map V.int)) (hz : ns[i]? = some z) : EvD K (tOp (rIx K) te tf) ro ka (.val (.int z)) k2 := ev_op h h2 fun B F0 ro ta sg H u v Q e h1 h2 q =>
  .inl ⟨p, ns.map V.int, i, .int z, e.tm_adr h1, e.tm_int h2, hk H, atI_nat (by rw [List.getElem?_map, hz]; rfl), q _ _ (e.push_imm fun _ => rfl)⟩
def ct_law_cell (K : PySem.W.Frag) : Ct := Ct2 fun a b ka out => ∃ ns, ∃ k : Nat, Scr K a ns ∧ b = .val (.int k) ∧ ka = [] ∧ out = Rt (.int (ns.getD k 0)) []
section
variable {P : Program} {w : World} {K : PySem.W.Frag} {mg : Str → Option Value} {base : Heap}
theorem ok_law_cell (T : Tx K mg) : Fn P w K mg base 4 (He.ga K "_law_cell") ["_law_script", "_law_k"] (ct_law_cell K) := by
  obtain ⟨fd, F⟩ := T.d_law_cell
  refine fn_ok F sc_law_cell (fun _ _ _ _ _ _ us hl => match us, hl with | [_, _], _ => rfl) ct2_len (fun cdv A outer s H E hr => ⟨_, (pss_cons (ps_if (pt_cmpR op_lt (pv 1) (pe_callB call_lenU rfl T.n_len (by decide +kernel) (pa_cons (pv 0) pa_nil)) (nomark _))
      (pss_one (ps_ret (pe_ix ix_seq (pv 0) (pv 1) fun _ _ => rfl)))
      pss_nil)
      (pss_one (ps_ret pe_int))), fun ws ka out B F0 Q hC hR hX => ?_⟩)
  obtain ⟨a, b, rfl, ns, k, hs, rfl, rfl, rfl⟩ := hC
  have out0 : ¬ k < ns.length → ns.getD k 0 = 0 := fun h => by
    rw [List.getD_eq_getElem?_getD, List.getElem?_eq_none (by omega)]
    rfl
  have in0 : k < ns.length → ns[k]? = some (ns.getD k 0) := fun h => by
    rw [List.getD_eq_getElem?_getD, List.getElem?_eq_getElem h]
    rfl
  rcases hs with rfl | ⟨p, rfl, hk⟩
  · have hl : (inD ns).length = ns.length := List.length_map ..
    refine q_when (et_test (ev_lt (ev_var rfl) (ev_len (ev_var rfl) .vl))) (fun hb => g_ret hR (ev_ixV (d := .int (ns.getD k 0)) (ev_var rfl) (ev_var rfl) .vl (atI_nat ?_)) ⟨rfl, rfl⟩) (fun hb => g_ret hR ev_int ⟨?_, rfl⟩)
    · rw [decide_eq_true_eq, hl] at hb
      unfold inD
      rw [List.getElem?_map, in0 (by omega)]
      rfl
    · rw [decide_eq_false_iff_not, hl] at hb
      rw [out0 (by omega)]
  · refine q_when (et_test (ev_lt (ev_var rfl) (ev_lenK (ev_var rfl) hk))) (fun hb => g_ret hR (ev_ixK (ev_var rfl) (ev_var rfl) hk (in0 ?_)) ⟨rfl, rfl⟩) (fun hb => g_ret hR ev_int ⟨?_, rfl⟩)
    · rw [decide_eq_true_eq] at hb
      omega
    · rw [decide_eq_false_iff_not] at hb
      rw [out0 (by omega)]
end
def ct_law_pool (K : PySem.W.Frag) : Ct := Ct1 fun a ka out => ∃ z, a = .val (.int z) ∧ ka = [] ∧ out = Nt (.lst (plOf z).ds) []
section
variable {P : Program} {w : World} {K : PySem.W.Frag} {mg : Str → Option Value} {base : Heap}
theorem ok_law_pool (T : Tx K mg) : Fn P w K mg base 4 (He.ga K "_law_pool") ["_law_cell_here"] (ct_law_pool K) := by
  obtain ⟨fd, F⟩ := T.d_law_pool
  refine fn_ok F sc_law_pool (fun _ _ _ _ _ _ us hl => match us, hl with | [_], _ => rfl) ct1_len (fun cdv A outer s H E hr => ⟨_, (pss_cons (ps_set (i := 1) sc_law_pool.nd rfl (by first | exact Or.inl rfl | exact Or.inr rfl) (pe_op op_mulU pe_int (pv 0)))
      (pss_cons (ps_if (pt_cmpR op_lt (pv 0) pe_int (nomark _))
      (pss_one (ps_set (i := 1) sc_law_pool.nd rfl (by first | exact Or.inl rfl | exact Or.inr rfl) (pe_op op_sub (pe_op op_sub pe_int (pe_op op_mulU pe_int (pv 0))) pe_int)))
      pss_nil)
      (pss_cons (ps_if (pt_cmpR op_ge (pv 1) (pe_op op_pow pe_int pe_int) (nomark _))
      (pss_one (ps_ret (pe_lst (pa_cons (pv 1) (pa_cons (pe_op op_mod (pe_callTy call_intU rfl T.n_int (by decide +kernel) (pa_cons (pv 1) pa_nil)) pe_int) (pa_cons pe_int pa_nil))))))
      pss_nil)
      (pss_one (ps_ret (pe_lst (pa_cons pe_int (pa_cons (pe_op op_mod (pe_callTy call_intU rfl T.n_int (by decide +kernel) (pa_cons (pv 1) pa_nil)) pe_int) (pa_cons pe_int pa_nil))))))))), fun ws ka out B F0 Q hC hR hX => ?_⟩)
  obtain ⟨a, rfl, z, rfl, rfl, rfl⟩ := hC
  refine q_asg (ev_mulL ev_int (ev_var rfl)) ?_
  refine q_whenI (fun ro ka => ro = [some (.val (.int z)), some (.val (.int (fldZ z)))] ∧ ka = []) (et_test (ev_lt (ev_var rfl) ev_int)) (fun hb nx k => g_asg (ev_subI (ev_subI ev_int (ev_mulL ev_int (ev_var rfl))) ev_int) (k _ _ ⟨?_, rfl⟩)) (fun hb => ⟨?_, rfl⟩) ?_
  · rw [decide_eq_true_eq] at hb
    unfold fldZ
    rw [if_pos hb]
    rfl
  · rw [decide_eq_false_iff_not] at hb
    unfold fldZ
    rw [if_neg hb]
    rfl
  · rintro ro2 ka2 ⟨rfl, rfl⟩
    refine q_when (et_test (ev_ge (ev_var rfl) (ev_powI ev_int ev_int ⟨by decide, by decide, by decide⟩))) (fun hb => g_retC hR (evn_lst (ds := (plOf z).ds) (ea3 (ev_var rfl) (ev_modI (ev_int1 (ev_var rfl)) ev_int (by decide)) ev_int |>.to ?_) (show 3 ≤ 100000 by decide)) (fun a => ⟨a, rfl, rfl⟩)) (fun hb => g_retC hR (evn_lst (ds := (plOf z).ds) (ea3 ev_int (ev_modI (ev_int1 (ev_var rfl)) ev_int (by decide)) ev_int |>.to ?_) (show 3 ≤ 100000 by decide)) (fun a => ⟨a, rfl, rfl⟩))
    · rw [decide_eq_true_eq] at hb
      have hb : fldZ z ≥ 10 ^ 18 := hb
      unfold plOf
      rw [if_pos hb]
      rfl
    · rw [decide_eq_false_iff_not] at hb
      have hb : ¬ fldZ z ≥ 10 ^ 18 := hb
      unfold plOf
      rw [if_neg hb]
      rfl
end
def ct_law_take (K : PySem.W.Frag) : Ct := Ct2 fun s b ka out => ∃ a p m, s = .val (.adr a) ∧ b = .val (.int m) ∧ ka = [(a, .lst (Pl.ds p))] ∧ p.Ok 1000000 ∧ 0 < m ∧ m ≤ 100000000 ∧ out = Rt (.int (tk p m).1) [(a, .lst (tk p m).2.ds)]
/-- a draw from the pool that is the first cell -/
theorem ev_take {K : PySem.W.Frag} {ro : Ro} {ka kr : Cells} {te tf : TE} {a : Addr} {p : Pl} {m : Int} {E : XK} {k1 : Cells} (h : EvD K te ro ka (.val (.adr a)) k1) (h2 : EvD K tf ro k1 (.val (.int m)) ((a, .lst p.ds) :: kr)) (hp : p.Ok 1000000) (h0 : 0 < m) (h1 : m ≤ 100000000) :
    EvD K (tCall (spC K (ct_law_take K)) [] E (tCons te (tCons tf tNil))) ro ka (.val (.int (tk p m).1)) ((a, .lst (tk p m).2.ds) :: kr) := ev_call1 (ea2 h h2) ⟨_, _, rfl, a, p, m, rfl, rfl, rfl, hp, h0, h1, rfl⟩
section
variable {P : Program} {w : World} {K : PySem.W.Frag} {mg : Str → Option Value} {base : Heap}
theorem ok_law_take (T : Tx K mg) : Fn P w K mg base 4 (He.ga K "_law_take") ["_law_pool_here", "_law_many"] (ct_law_take K) := by
  obtain ⟨fd, F⟩ := T.d_law_take
  refine fn_ok F sc_law_take (fun _ _ _ _ _ _ us hl => match us, hl with | [_, _], _ => rfl) ct2_len (fun cdv A outer s H E hr => ⟨_, (pss_cons (ps_if (pt_cmpR op_gt (pe_ix ix_seq (pv 0) pe_int fun _ _ => rfl) pe_int (nomark _))
      (pss_cons (ps_set (i := 2) sc_law_take.nd rfl (by first | exact Or.inl rfl | exact Or.inr rfl) (pe_op op_mod (pe_callTy call_intU rfl T.n_int (by decide +kernel) (pa_cons (pe_ix ix_seq (pv 0) pe_int fun _ _ => rfl) pa_nil)) (pv 1)))
      (pss_cons (ps_asg (pe_op op_fdiv (pe_ix ix_seq (pv 0) pe_int fun _ _ => rfl) (pv 1)) (pg_sub (pv 0) pe_int set_list))
      (pss_one (ps_ret (pv 2)))))
      pss_nil)
      (pss_cons (ps_asg (pe_op op_addU (pe_ix ix_seq (pv 0) pe_int fun _ _ => rfl) pe_int) (pg_sub (pv 0) pe_int set_list))
      (pss_cons (ps_set (i := 3) sc_law_take.nd rfl (by first | exact Or.inl rfl | exact Or.inr rfl) (pe_op op_mod (pe_callTy call_intU rfl T.n_int (by decide +kernel) (pa_cons (pe_op op_pow (pe_op op_addU (pe_op op_addU (pe_ix ix_seq (pv 0) pe_int fun _ _ => rfl) (pe_op op_mulU pe_int (pe_ix ix_seq (pv 0) pe_int fun _ _ => rfl))) pe_int) pe_int) pa_nil)) pe_int))
      (pss_one (ps_ret (pe_op op_mod (pe_op op_mod (pe_callTy call_intU rfl T.n_int (by decide +kernel) (pa_cons (pe_op op_mulU (pe_op op_addU (pv 3) (pe_ix ix_seq (pv 0) pe_int fun _ _ => rfl)) pe_int) pa_nil)) pe_int) (pv 1))))))), fun ws ka out B F0 Q hC hR hX => ?_⟩)
  obtain ⟨s1, b, rfl, a, p, m, rfl, rfl, rfl, hp, h0, h1, rfl⟩ := hC
  obtain ⟨p1, p2, p3, p4, p5⟩ := hp
  have i2 : atI (Pl.ds p) 2 = some (.int p.c) := atI_nat (j := 2) rfl
  have i1 : atI (Pl.ds p) 1 = some (.int p.b) := atI_nat (j := 1) rfl
  refine q_when (et_test (ev_gt (ev_ixV (ev_var rfl) ev_int (.ce 0 rfl) at0) ev_int)) (fun hb => ?_) (fun hb => ?_)
  · rw [decide_eq_true_eq] at hb
    refine q_asg (ev_modI (ev_int1 (ev_ixV (ev_var rfl) ev_int (.ce 0 rfl) at0)) (ev_var rfl) h0) ?_
    refine q_seti (j := 0) (ix := 0) (ev_divI (ev_ixV (ev_var rfl) ev_int (.ce 0 rfl) at0) (ev_var rfl) ⟨h0, by omega⟩) (ev_var rfl) ev_int rfl rfl ?_
    refine g_ret hR (ev_var rfl) ?_
    unfold tk
    rw [if_pos hb]
    exact ⟨rfl, rfl⟩
  · rw [decide_eq_false_iff_not] at hb
    refine q_seti (j := 0) (ix := 2) (ev_addI (ev_ixV (ev_var rfl) ev_int (.ce 0 rfl) i2) ev_int) (ev_var rfl) ev_int rfl rfl ?_
    refine q_asg (ev_modI (ev_int1 (ev_powI (i := p.b + 7919 * (p.c + 1) + 104729) (ev_addI (ev_addI (ev_ixV (ev_var rfl) ev_int (.ce 0 rfl) (atI_nat (j := 1) rfl)) (ev_mulL ev_int (ev_ixV (ev_var rfl) ev_int (.ce 0 rfl) (atI_nat (j := 2) rfl)))) ev_int) ev_int ⟨by decide, by decide, ?_⟩)) ev_int (by decide)) ?_
    · omega
    refine g_ret hR (ev_modI (ev_modI (ev_int1 (ev_mulR (ev_addI (ev_var rfl) (ev_ixV (ev_var rfl) ev_int (.ce 0 rfl) (atI_nat (j := 2) rfl))) ev_int)) ev_int (by decide)) (ev_var rfl) h0) ?_
    unfold tk
    rw [if_neg hb]
    exact ⟨rfl, rfl⟩
end
structure WdOk (l : List Nat) (k : Nat) : Prop where
  hd : ∃ c, l.head? = some c ∧ c ∈ letL
  sg : ∀ x ∈ l, x ∈ letL ++ digL
  len : l.length = k
theorem head_take {l : List Nat} {n : Nat} (h : 0 < n) : (l.take n).head? = l.head? := by
  cases l with
  | nil => simp
  | cons c r =>
    cases n with
    | zero => omega
    | succ n => rfl
theorem head_app {l m : List Nat} {c : Nat} (h : l.head? = some c) : (l ++ m).head? = some c := by
  cases l with
  | nil => cases h
  | cons d r => exact h
theorem nm_mid {l st : List Nat} {c p : Nat} (hl : WdOk l 8) (r : Nat) (hr : r < 8) (hst : st = l.take r) (hp : p ≤ st.length) (h0 : p = 0 → c ∈ letL) (hc : c ∈ letL ++ digL) : isNm (tx (st.take p ++ [c] ++ st.drop p)) = true := by
  subst hst
  refine nm_of ?_ (fun x hx => ?_) ?_
  · by_cases hp0 : p = 0
    · subst hp0
      exact ⟨c, by simp, h0 rfl⟩
    · obtain ⟨d, h1, h2⟩ := hl.hd
      rw [List.length_take] at hp
      refine ⟨d, head_app (head_app ?_), h2⟩
      rw [head_take (by omega), head_take (by omega)]
      exact h1
  · rcases List.mem_append.mp hx with hx | hx
    · rcases List.mem_append.mp hx with hx | hx
      · exact hl.sg x (List.mem_of_mem_take (List.mem_of_mem_take hx))
      · rw [List.mem_singleton.mp hx]; exact hc
    · exact hl.sg x (List.mem_of_mem_take (List.mem_of_mem_drop hx))
  · rw [List.length_append, List.length_append, List.length_take, List.length_drop, List.length_take, hl.len]
    simp
    omega
theorem key_snoc {β : Type} {key : Str → β} {f : Nat → β} {ss : List Str} {x : Str} (h : ∀ j s, ss[j]? = some s → key s = f j) (hx : key x = f ss.length) : ∀ j s, (ss ++ [x])[j]? = some s → key s = f j := fun j s e => by
  rcases Nat.lt_trichotomy j ss.length with q | q | q
  · rw [List.getElem?_append_left q] at e
    exact h j s e
  · subst q
    rw [List.getElem?_append_right (Nat.le_refl _), Nat.sub_self] at e
    cases e
    exact hx
  · rw [List.getElem?_append_right (by omega)] at e
    have := (List.getElem?_eq_some_iff.mp e).1
    rw [List.length_singleton] at this
    omega
theorem key_nd {β : Type} {key : Str → β} {f : Nat → β} {ss : List Str} (h : ∀ j s, ss[j]? = some s → key s = f j) (inj : ∀ i j, i < j → j < ss.length → f i ≠ f j) : ss.Nodup := by
  refine List.pairwise_iff_getElem.mpr fun i j hi hj hij e => inj i j hij hj ?_
  rw [← h i _ (List.getElem?_eq_getElem hi), ← h j _ (List.getElem?_eq_getElem hj), e]
theorem at_get {β : Type} {xs : List β} {i : Int} {x : β} (h0 : 0 ≤ i) (h : atI xs i = some x) : xs[i.toNat]? = some x := by
  unfold atI ixN at h
  rw [if_pos h0] at h
  by_cases q : i < xs.length
  · rw [if_pos q] at h
    exact h
  · rw [if_neg q] at h
    cases h
theorem let_nd : letL.Nodup := by decide
theorem sig_nd : (letL ++ digL).Nodup := by decide
theorem nd_inj {xs : List Nat} (h : xs.Nodup) {i j : Nat} (hi : i < xs.length) (hij : i ≠ j) : xs[i]? ≠ xs[j]? := fun e => by
  rw [List.getElem?_eq_getElem hi] at e
  obtain ⟨hj, e2⟩ := List.getElem?_eq_some_iff.mp e.symm
  exact hij ((List.getElem_inj h).mp e2).symm
def ct_law_names (K : PySem.W.Frag) : Ct := Ct2 fun s b ka out => ∃ a p n m, s = .val (.adr a) ∧ b = .val (.int m) ∧ ka = [(a, .lst (Pl.ds p))] ∧ p.Ok n ∧ 0 ≤ n ∧ n ≤ 900000 ∧ 0 ≤ m ∧ m ≤ 8 ∧
  out = fun o k => ∃ ss p', o = .ret (.lst (stD ss)) ∧ k = [(a, .lst (Pl.ds p'))] ∧ p'.Ok (n + 30) ∧ ss.length = m.toNat ∧ (∀ s ∈ ss, isNm s = true) ∧ ss.Nodup
section
variable {P : Program} {w : World} {K : PySem.W.Frag} {mg : Str → Option Value} {base : Heap}
theorem ok_law_names (T : Tx K mg) (F_law_take : Fn P w K mg base 4 (He.ga K "_law_take") ["_law_pool_here", "_law_many"] (ct_law_take K)) : Fn P w K mg base 6 (He.ga K "_law_names") ["_law_pool_here", "_law_many"] (ct_law_names K) := by
  obtain ⟨fd, F⟩ := T.d_law_names
  refine fn_ok F sc_law_names (fun _ _ _ _ _ _ us hl => match us, hl with | [_, _], _ => rfl) ct2_len (fun cdv A outer s H E hr => ⟨_, (pss_cons (ps_set (i := 2) sc_law_names.nd rfl (by first | exact Or.inl rfl | exact Or.inr rfl) pe_str)
      (pss_cons (ps_set (i := 3) sc_law_names.nd rfl (by first | exact Or.inl rfl | exact Or.inr rfl) (pe_op op_addU (pv 2) pe_str))
      (pss_cons (ps_set (i := 4) sc_law_names.nd rfl (by first | exact Or.inl rfl | exact Or.inr rfl) (pe_ix ix_seq (pv 2) (pe_call (F_law_take.up (by decide)).ok hr rfl T.g_law_take.1 T.g_law_take.2 (F_law_take.up (by decide)).bn .nil (pass_own rfl rfl rfl rfl) (pa_cons (pv 0) (pa_cons pe_int pa_nil))) fun _ _ => rfl))
      (pss_cons (ps_for (passes_of rfl) rfl (pi_range1 rfl T.n_range (pa_cons pe_int pa_nil)) (pg_name (i := 5) sc_law_names.nd rfl (by first | exact Or.inl rfl | exact Or.inr rfl)) (pss_one (ps_set (i := 4) sc_law_names.nd rfl (by first | exact Or.inl rfl | exact Or.inr rfl) (pe_op op_addU (pv 4) (pe_ix ix_seq (pv 3) (pe_call (F_law_take.up (by decide)).ok hr rfl T.g_law_take.1 T.g_law_take.2 (F_law_take.up (by decide)).bn .nil (pass_own rfl rfl rfl rfl) (pa_cons (pv 0) (pa_cons pe_int pa_nil))) fun _ _ => rfl)))))
      (pss_cons (ps_set (i := 6) sc_law_names.nd rfl (by first | exact Or.inl rfl | exact Or.inr rfl) (pe_call (F_law_take.up (by decide)).ok hr rfl T.g_law_take.1 T.g_law_take.2 (F_law_take.up (by decide)).bn .nil (pass_own rfl rfl rfl rfl) (pa_cons (pv 0) (pa_cons pe_int pa_nil))))
      (pss_cons (ps_set (i := 7) sc_law_names.nd rfl (by first | exact Or.inl rfl | exact Or.inr rfl) (pe_call (F_law_take.up (by decide)).ok hr rfl T.g_law_take.1 T.g_law_take.2 (F_law_take.up (by decide)).bn .nil (pass_own rfl rfl rfl rfl) (pa_cons (pv 0) (pa_cons pe_int pa_nil))))
      (pss_cons (ps_if (pt_cmpR (op_eqP (by have := (hr).units; exact this)) (pv 6) pe_int (nomark _))
      (pss_one (ps_ret (pe_lc (te := (tSl (rSlU K) (tVar 4) tNoPart (tPart (tOp (rAddU K) (tVar 5) (tC (.int 1)))))) (tt := tYes) (own := [("_law_k", 5)]) rfl sc_law_names.nd (pi_range1 rfl T.n_range (pa_cons (pv 1) pa_nil)) (blk_ok ["_law_pool_here", "_law_many", "_law_letters", "_law_signs", "_law_word", "_law_k", "_law_kind", "_law_start", "_law_stem", "_law_place", "_law_told", "_law_names_here", "_law_sign"] (defScope s_law_names) rfl rfl (by decide +kernel)) (fun _ _ _ _ _ => (pg_name (i := 5) sc_law_names.nd rfl (by first | exact Or.inl rfl | exact Or.inr rfl))) (fun _ _ _ _ _ => pts_nil) (fun _ _ _ _ _ => (pe_slice sl_U (pv 4) po_none (po_some (pe_op op_addU (pv 5) pe_int)))))))
      pss_nil)
      (pss_cons (ps_if (pt_cmpR (op_eqP (by have := (hr).units; exact this)) (pv 6) pe_int (nomark _))
      (pss_one (ps_ret (pe_lc (te := (tOp (rAddU K) (tOp (rIx K) (tVar 2) (tOp rModI (tOp (rAddU K) (tVar 7) (tOp rMulU (tC (.int 3)) (tVar 5))) (tC (.int 26)))) (tSl (rSlU K) (tVar 4) tNoPart (tPart (tCall (spC K (ct_law_take K)) [] (fun _ _ _ => False) (tCons (tVar 0) (tCons (tC (.int 8)) tNil))))))) (tt := tYes) (own := [("_law_k", 5)]) rfl sc_law_names.nd (pi_range1 rfl T.n_range (pa_cons (pv 1) pa_nil)) (blk_ok ["_law_pool_here", "_law_many", "_law_letters", "_law_signs", "_law_word", "_law_k", "_law_kind", "_law_start", "_law_stem", "_law_place", "_law_told", "_law_names_here", "_law_sign"] (defScope s_law_names) rfl rfl (by decide +kernel)) (fun _ _ _ _ _ => (pg_name (i := 5) sc_law_names.nd rfl (by first | exact Or.inl rfl | exact Or.inr rfl))) (fun _ _ _ _ _ => pts_nil) (fun _ _ _ _ _ => (pe_op op_addU (pe_ix ix_seq (pv 2) (pe_op op_mod (pe_op op_addU (pv 7) (pe_op op_mulU pe_int (pv 5))) pe_int) fun _ _ => rfl) (pe_slice sl_U (pv 4) po_none (po_some (pe_call (F_law_take.up (by decide)).ok hr rfl T.g_law_take.1 T.g_law_take.2 (F_law_take.up (by decide)).bn .nil passes_no (pa_cons (pv 0) (pa_cons pe_int pa_nil))))))))))
      pss_nil)
      (pss_cons (ps_set (i := 8) sc_law_names.nd rfl (by first | exact Or.inl rfl | exact Or.inr rfl) (pe_slice sl_U (pv 4) po_none (po_some (pe_call (F_law_take.up (by decide)).ok hr rfl T.g_law_take.1 T.g_law_take.2 (F_law_take.up (by decide)).bn .nil (pass_own rfl rfl rfl rfl) (pa_cons (pv 0) (pa_cons pe_int pa_nil))))))
      (pss_cons (ps_set (i := 9) sc_law_names.nd rfl (by first | exact Or.inl rfl | exact Or.inr rfl) (pe_call (F_law_take.up (by decide)).ok hr rfl T.g_law_take.1 T.g_law_take.2 (F_law_take.up (by decide)).bn .nil (pass_own rfl rfl rfl rfl) (pa_cons (pv 0) (pa_cons (pe_op op_addU (pe_callB call_lenU rfl T.n_len (by decide +kernel) (pa_cons (pv 8) pa_nil)) pe_int) pa_nil))))
      (pss_cons (ps_set (i := 10) sc_law_names.nd rfl (by first | exact Or.inl rfl | exact Or.inr rfl) (pe_ifExp (pt_cmpR (op_eqP (by have := (hr).units; exact this)) (pv 9) pe_int (nomark _)) (pv 2) (pv 3)))
      (pss_cons (ps_set (i := 11) sc_law_names.nd rfl (by first | exact Or.inl rfl | exact Or.inr rfl) (pe_lst pa_nil))
      (pss_cons (ps_for (passes_of rfl) rfl (pi_range1 rfl T.n_range (pa_cons (pv 1) pa_nil)) (pg_name (i := 5) sc_law_names.nd rfl (by first | exact Or.inl rfl | exact Or.inr rfl)) (pss_cons (ps_set (i := 12) sc_law_names.nd rfl (by first | exact Or.inl rfl | exact Or.inr rfl) (pe_ix ix_seq (pv 10) (pe_op op_mod (pe_op op_addU (pv 7) (pe_op op_mulU pe_int (pv 5))) (pe_callB call_lenU rfl T.n_len (by decide +kernel) (pa_cons (pv 10) pa_nil))) fun _ _ => rfl))
      (pss_one (ps_expr (pe_bm PySem.F.plainAttrs_list PySem.F.slot_list_append PySem.F.type_list_append mt_append (pv 11) (pa_cons (pe_op op_addU (pe_op op_addU (pe_slice sl_U (pv 8) po_none (po_some (pv 9))) (pv 12)) (pe_slice sl_U (pv 8) (po_some (pv 9)) po_none)) pa_nil))))))
      (pss_one (ps_ret (pv 11)))))))))))))))), fun ws ka out B F0 Q hC hR hX => ?_⟩)
  obtain ⟨s1, b1, rfl, a, p, n, m, rfl, rfl, rfl, hp, hn0, hn, hm0, hm, rfl⟩ := hC
  refine q_asg (ev_str.to (congrArg (fun z => W.val (.str z)) letters_tx)) ?_
  refine q_asg (ev_addT (ev_var rfl) (ev_str.to (congrArg (fun z => W.val (.str z)) digits_tx)) (by decide)) ?_
  have t0 := tk_lt p (m := 26) (by decide)
  obtain ⟨c0, hc0, hm1⟩ := sgn_at (l := letL) t0.1 (by rw [let_len]; exact t0.2)
  have hp1 : (tk p 26).2.Ok (n + 1) := tk_ok hp (by decide)
  refine q_asg (ev_ixT (ev_var rfl) (ev_take (kr := []) (ev_var rfl) ev_int (hp.up (by omega)) (by decide) (by decide)) (by decide) hc0) ?_
  refine q_forn (ei_range1 (ea1 ev_int) (by decide) (by decide)) (fun i ro ka => ∃ l p' v, ro = [some (.val (.adr a)), some (.val (.int m)), some (.val (.str (tx letL))), some (.val (.str (tx (letL ++ digL)))), some (.val (.str (tx l))), v, none, none, none, none, none, none, none] ∧ ka = [(a, .lst (Pl.ds p'))] ∧ p'.Ok (n + 1 + i) ∧ WdOk l (i + 1))
    ⟨[c0], _, none, rfl, rfl, hp1.up (by omega), ⟨c0, rfl, hm1⟩, fun x hx => by rw [List.mem_singleton.mp hx]; exact List.mem_append_left _ hm1, rfl⟩ (fun i ro ka _ => trivial) (fun i w ro2 ka2 ta' hw ⟨l, p', v, e1, e2, hp', hl⟩ => ?_) (fun ro2 ka2 ta' ⟨l, p1, v, e1, e2, hp1, hl⟩ _ => ?_)
  · subst e1 e2
    have hi : i < 7 := by
      have := (List.getElem?_eq_some_iff.mp hw).1
      rwa [List.length_map, List.length_range] at this
    have t1 := tk_lt p' (m := 36) (by decide)
    obtain ⟨c, hc, hm2⟩ := sgn_at (l := letL ++ digL) t1.1 (by rw [sig_len]; exact t1.2)
    refine g_asg (ev_addT (ev_var rfl) (ev_ixT (ev_var rfl) (ev_take (kr := []) (ev_var rfl) ev_int (hp'.up (by omega)) (by decide) (by decide)) (by decide) hc) (by rw [hl.len]; simp; omega)) (g_jp ⟨l ++ [c], _, _, rfl, rfl, (tk_ok hp' (by decide)).up (by push_cast; omega), ?_, fun x hx => ?_, by rw [List.length_append, hl.len]; rfl⟩)
    · obtain ⟨d, h1, h2⟩ := hl.hd
      exact ⟨d, head_app h1, h2⟩
    · rcases List.mem_append.mp hx with hx | hx
      · exact hl.sg x hx
      · rw [List.mem_singleton.mp hx]; exact hm2
  subst e1 e2
  rw [List.length_map, List.length_range] at hp1 hl
  have hl : WdOk l 8 := hl
  have hp1 : p1.Ok (n + 8) := hp1.up (by show n + 1 + 7 ≤ n + 8; omega)
  have hp2 := tk_ok hp1 (m := 4) (by decide)
  have hp3 := tk_ok hp2 (m := 36) (by decide)
  have t4 := tk_lt p1 (m := 4) (by decide)
  have t5 := tk_lt (tk p1 4).2 (m := 36) (by decide)
  have hl8 : l.length = 8 := hl.len
  refine q_asg (ev_take (kr := []) (ev_var rfl) ev_int (hp1.up (by omega)) (by decide) (by decide)) ?_
  refine q_asg (ev_take (kr := []) (ev_var rfl) ev_int (hp2.up (by omega)) (by decide) (by decide)) ?_
  generalize tk (tk p1 4).2 36 = q3 at *
  refine q_when (et_test (ev_eqI (ev_var rfl) ev_int)) (fun _ => ?_) (fun _ => ?_)
  · refine g_retL hR (evn_map (xs := List.range m.toNat) (g := fun i : Nat => W.val (.int (i : Int))) (f := fun i => D.str (tx (l.take (i + 1)))) (ei_range1 (ea1 (ev_var rfl)) (by omega) (by omega)) (by decide) (by rw [List.length_range]; omega) ⟨trivial, fun _ => trivial⟩ (fun i hi => (ev_slX (ev_var rfl) eo_none (eo_some (ev_addI (ev_var rfl) ev_int)) (by omega)).to ?_)) ⟨(List.range m.toNat).map fun i => tx (l.take (i + 1)), _, ?_, rfl, hp3.up (by omega), by rw [List.length_map, List.length_range], fun s hs => ?_, key_nd (key := fun s => s.cps.toList.length) (f := fun j => j + 1) (fun j s e => ?_) (fun i j h1 _ => by show i + 1 ≠ j + 1; omega)⟩
    · rw [cut_to' (by omega)]
      rfl
    · unfold stD
      rw [List.map_map]
      rfl
    · obtain ⟨i, hi, rfl⟩ := List.mem_map.mp hs
      obtain ⟨d, h1, h2⟩ := hl.hd
      refine nm_of ⟨d, by rw [head_take (by omega)]; exact h1, h2⟩ (fun x hx => hl.sg x (List.mem_of_mem_take hx)) ?_
      rw [List.length_take]
      omega
    · rw [List.getElem?_map] at e
      obtain ⟨i, hi, rfl⟩ := Option.map_eq_some_iff.mp e
      obtain ⟨h1, h2⟩ := List.getElem?_eq_some_iff.mp hi
      rw [List.getElem_range] at h2
      rw [List.length_range] at h1
      subst h2
      show (tx _).cps.toList.length = _
      rw [tx_cps, List.length_take]
      omega
  refine q_when (et_test (ev_eqI (ev_var rfl) ev_int)) (fun _ => ?_) (fun _ => ?_)
  · refine g_retR hR (evr_lc (ei_range1 (ea1 (ev_var rfl)) (by omega) (by omega)) (by decide) (by rw [List.length_map, List.length_range]; omega) (fun i acc k => ∃ ss p', acc = stD ss ∧ k = [(a, .lst (Pl.ds p'))] ∧ p'.Ok (n + 10 + i) ∧ ss.length = i ∧ (∀ s ∈ ss, isNm s = true) ∧ ∀ (j : Nat) (s : Str), ss[j]? = some s → s.cps.toList[0]? = letL[((q3.1 + 3 * (j : Int)) % 26).toNat]?) ⟨[], _, rfl, rfl, hp3.up (by omega), rfl, (fun s h => by cases h), fun j s h => by simp at h⟩ (fun i acc k _ => ⟨trivial, fun _ => trivial⟩) (fun i w acc k hw ⟨ss, p', e1, e2, hp', hl2, hs, hk⟩ => ?_)) (fun nd k ⟨acc, e0, ss, p', e1, e2, hp', hl2, hs, hk⟩ => ?_)
    · subst e1 e2
      have hi : i < m.toNat := by
        have := (List.getElem?_eq_some_iff.mp hw).1
        rwa [List.length_map, List.length_range] at this
      have hw2 : w = .val (.int (i : Int)) := by
        rw [List.getElem?_map, List.getElem?_range hi] at hw
        cases hw
        rfl
      subst hw2
      have hz : 0 ≤ (q3.1 + 3 * (i : Int)) % 26 := Int.emod_nonneg _ (by decide)
      have hz2 : (q3.1 + 3 * (i : Int)) % 26 < 26 := Int.emod_lt_of_pos _ (by decide)
      obtain ⟨c, hc, hm2⟩ := sgn_at (l := letL) hz (by rw [let_len]; exact hz2)
      have t6 := tk_lt p' (m := 8) (by decide)
      refine .inr ⟨_, _, .str (tx ([c] ++ l.take (tk p' 8).1.toNat)), et_yes, (ev_addT (ev_ixT (ev_var rfl) (ev_modI (ev_addI (ev_var rfl) (ev_mulL ev_int (ev_var rfl))) ev_int (by decide)) (by decide) hc) ((ev_slX (ev_var rfl) eo_none (eo_some (ev_take (kr := []) (ev_var rfl) ev_int (hp'.up (by omega)) (by decide) (by decide))) (by omega)).to (congrArg (fun z => W.val (.str (tx z))) (cut_to' t6.1))) (by rw [List.length_take]; simp; omega)), ss ++ [tx ([c] ++ l.take (tk p' 8).1.toNat)], _, stD_app ss [_], rfl, (tk_ok hp' (by decide)).up (by push_cast; omega), by rw [List.length_append, hl2]; rfl, fun s h => ?_, key_snoc hk (by rw [hl2, at_get hz hc]; rfl)⟩
      rcases List.mem_append.mp h with h | h
      · exact hs s h
      · rw [List.mem_singleton.mp h]
        refine nm_of ⟨c, rfl, hm2⟩ (fun x hx => ?_) ?_
        · rcases List.mem_append.mp hx with hx | hx
          · rw [List.mem_singleton.mp hx]; exact List.mem_append_left _ hm2
          · exact hl.sg x (List.mem_of_mem_take hx)
        · rw [List.length_append, List.length_take]
          simp
          omega
    · subst e1 e2
      rw [List.length_map, List.length_range] at hl2 hp'
      refine ⟨_, e0, ss, p', rfl, rfl, hp'.up (by omega), hl2, hs, key_nd hk fun i j h1 h2 => nd_inj let_nd ?_ ?_⟩
      · rw [let_len]; omega
      · omega
  have t6 := tk_lt q3.2 (m := 8) (by decide)
  have hp4 := tk_ok hp3 (m := 8) (by decide)
  refine q_asg ((ev_slX (ev_var rfl) eo_none (eo_some (ev_take (kr := []) (ev_var rfl) ev_int (hp3.up (by omega)) (by decide) (by decide))) (by omega)).to (congrArg (fun z => W.val (.str (tx z))) (cut_to' t6.1))) ?_
  generalize hst : l.take (tk q3.2 8).1.toNat = st
  have hsl : st.length ≤ 7 := by
    rw [← hst, List.length_take]
    omega
  have t7 := tk_lt (tk q3.2 8).2 (m := (st.length : Int) + 1) (by omega)
  have hp5 := tk_ok hp4 (m := (st.length : Int) + 1) (by omega)
  refine q_asg (ev_take (kr := []) (ev_var rfl) (ev_addI (ev_lenX (ev_var rfl) (by omega)) ev_int) (hp4.up (by omega)) (by omega) (by omega)) ?_
  generalize tk (tk q3.2 8).2 ((st.length : Int) + 1) = q5 at *
  generalize htl : (if (q5.1 == 0) = true then letL else letL ++ digL) = tl
  have htl0 : 0 < tl.length ∧ tl.length ≤ 36 := by
    rw [← htl]
    split <;> decide
  refine q_asg (w := .val (.str (tx tl))) (ev_if (et_test (ev_eqI (ev_var rfl) ev_int)) (fun hb => (ev_var rfl).to (by rw [← htl, if_pos hb])) (fun hb => (ev_var rfl).to (by rw [← htl, if_neg (by rw [hb]; exact Bool.false_ne_true)]))) ?_
  refine q_asgN (evn_lst (ds := []) ea_nil (by decide)) (fun b => ?_)
  refine q_forn (ei_range1 (ea1 (ev_var rfl)) (by omega) (by omega)) (fun i ro ka => ∃ ss v v2, ro = [some (.val (.adr a)), some (.val (.int m)), some (.val (.str (tx letL))), some (.val (.str (tx (letL ++ digL)))), some (.val (.str (tx l))), v, some (.val (.int (tk p1 4).1)), some (.val (.int q3.1)), some (.val (.str (tx st))), some (.val (.int q5.1)), some (.val (.str (tx tl))), some (.val (.adr b)), v2] ∧ ka = [(a, .lst (Pl.ds q5.2)), (b, .lst (stD ss))] ∧ ss.length = i ∧ (∀ s ∈ ss, isNm s = true) ∧ ∀ (j : Nat) (s : Str), ss[j]? = some s → s.cps.toList[q5.1.toNat]? = tl[((q3.1 + 7 * (j : Int)) % (tl.length : Int)).toNat]?)
    ⟨[], _, none, rfl, rfl, rfl, (fun s h => by cases h), fun j s h => by simp at h⟩ (fun i ro ka _ => trivial) (fun i w ro2 ka2 ta' hw ⟨ss, v, v2, e1, e2, hl2, hs, hk⟩ => ?_) (fun ro2 ka2 ta' ⟨ss, v, v2, e1, e2, hl2, hs, hk⟩ _ => ?_)
  · subst e1 e2
    have hi : i < m.toNat := by
      have := (List.getElem?_eq_some_iff.mp hw).1
      rwa [List.length_map, List.length_range] at this
    have hw2 : w = .val (.int (i : Int)) := by
      rw [List.getElem?_map, List.getElem?_range hi] at hw
      cases hw
      rfl
    subst hw2
    have hz : 0 ≤ (q3.1 + 7 * (i : Int)) % (tl.length : Int) := Int.emod_nonneg _ (by omega)
    have hz2 : (q3.1 + 7 * (i : Int)) % (tl.length : Int) < tl.length := Int.emod_lt_of_pos _ (by omega)
    obtain ⟨c, hc, hm2⟩ := sgn_at (l := tl) hz hz2
    have hpl : q5.1 ≤ st.length := by omega
    refine q_asg (ev_ixT (ev_var rfl) (ev_modI (ev_addI (ev_var rfl) (ev_mulL ev_int (ev_var rfl))) (ev_lenX (ev_var rfl) (by omega)) (by omega)) (by omega) hc) ?_
    refine g_app (j0 := 1) (j := 1) (d := .str (tx (st.take q5.1.toNat ++ [c] ++ st.drop q5.1.toNat))) (ev_var rfl) rfl ((ev_addT (ev_addT (ev_slX (ev_var rfl) eo_none (eo_some (ev_var rfl)) (by omega)) (ev_var rfl) ?_) (ev_slX (ev_var rfl) (eo_some (ev_var rfl)) eo_none (by omega)) ?_).to ?_) rfl (by rw [stD_len]; omega) (g_jp ⟨ss ++ [tx (st.take q5.1.toNat ++ [c] ++ st.drop q5.1.toNat)], _, _, rfl, ?_, by rw [List.length_append, hl2]; rfl, fun s h => ?_, key_snoc hk ?_⟩)
    · have := cut_len st none (some q5.1)
      simp
      omega
    · have h1 := cut_len st none (some q5.1)
      have h2 := cut_len st (some q5.1) none
      rw [List.length_append]
      simp
      omega
    · rw [cut_to' t7.1, cut_from t7.1 hpl]
    · exact congrArg (fun z => [(a, Nd.lst (Pl.ds q5.2)), (b, Nd.lst z)]) (stD_app ss [_])
    · rcases List.mem_append.mp h with h | h
      · exact hs s h
      · rw [List.mem_singleton.mp h]
        refine nm_mid hl _ (by omega) hst.symm (by omega) (fun h0 => ?_) ?_
        · have : (q5.1 == 0) = true := beq_iff_eq.mpr (by omega)
          rw [if_pos this] at htl
          rw [htl]
          exact hm2
        · rw [← htl] at hm2
          split at hm2
          · exact List.mem_append_left _ hm2
          · exact hm2
    · rw [hl2, at_get hz hc, tx_cps, List.append_assoc, List.getElem?_append_right (by rw [List.length_take]; omega), List.length_take, Nat.min_eq_left (by omega), Nat.sub_self]
      rfl
  · subst e1 e2
    rw [List.length_map, List.length_range] at hl2
    have hnd : ss.Nodup := key_nd hk fun i j h1 h2 => by
      have hl36 : tl = letL ∨ tl = letL ++ digL := by
        rw [← htl]
        split
        · exact .inl rfl
        · exact .inr rfl
      rcases hl36 with q | q
      · subst q
        rw [let_len]
        exact nd_inj let_nd (by rw [let_len]; omega) (by omega)
      · rw [q, sig_len]
        exact nd_inj sig_nd (by rw [sig_len]; omega) (by omega)
    exact Gp.frz (i := 11) (j := 1) rfl rfl (g_ret hR (ev_var rfl) ⟨ss, _, rfl, rfl, hp5.up (by omega), hl2, hs, hnd⟩)
end
/-- a word drawn, or what was made of it -/
def bwOk : D → Prop
  | .str s => s.length ≤ 20
  | .non => True
  | .int _ => True
  | .bl _ => True
  | .tup [.str s] => s.length ≤ 20
  | _ => False
theorem bw_nm {d : D} (h : bwOk d) : nmOk d := by
  unfold bwOk at h
  split at h
  · exact Nat.le_trans h (by decide)
  · exact fun z => by cases z
  · exact fun z => by cases z
  · exact fun z => by cases z
  · exact fun z => by cases z
  · exact h.elim
theorem bw_refl {d : D} (h : bwOk d) : eqD d d = true ∧ ∀ n, pl (n + 2) d = true := by
  unfold bwOk at h
  split at h
  · exact ⟨by rw [eqD_str]; exact beq_self_eq_true _, fun n => rfl⟩
  · exact ⟨rfl, fun n => rfl⟩
  · exact ⟨by simp [eqD], fun n => rfl⟩
  · exact ⟨by simp [eqD], fun n => rfl⟩
  · exact ⟨by simp [eqD, eqL], fun n => by simp [pl]⟩
  · exact h.elim
def ct_law_spoiled (K : PySem.W.Frag) : Ct := Ct2 fun s b ka out => ∃ (a : Addr) (p : Pl) (n : Int) (x : Str), s = .val (.adr a) ∧ b = .val (.str x) ∧ ka = [(a, .lst (Pl.ds p))] ∧ p.Ok n ∧ 0 ≤ n ∧ n ≤ 900000 ∧ isNm x = true ∧
  out = fun o k => ∃ (d : D) (p' : Pl), o = .ret d ∧ k = [(a, .lst (Pl.ds p'))] ∧ p'.Ok (n + 3) ∧ bwOk d
section
variable {P : Program} {w : World} {K : PySem.W.Frag} {mg : Str → Option Value} {base : Heap}
theorem ok_law_spoiled (T : Tx K mg) (F_law_take : Fn P w K mg base 4 (He.ga K "_law_take") ["_law_pool_here", "_law_many"] (ct_law_take K)) : Fn P w K mg base 6 (He.ga K "_law_spoiled") ["_law_pool_here", "_law_word"] (ct_law_spoiled K) := by
  obtain ⟨fd, F⟩ := T.d_law_spoiled
  refine fn_ok F sc_law_spoiled (fun _ _ _ _ _ _ us hl => match us, hl with | [_, _], _ => rfl) ct2_len (fun cdv A outer s H E hr => ⟨_, (pss_cons (ps_set (i := 2) sc_law_spoiled.nd rfl (by first | exact Or.inl rfl | exact Or.inr rfl) (pe_call (F_law_take.up (by decide)).ok hr rfl T.g_law_take.1 T.g_law_take.2 (F_law_take.up (by decide)).bn .nil (pass_own rfl rfl rfl rfl) (pa_cons (pv 0) (pa_cons pe_int pa_nil))))
      (pss_cons (ps_set (i := 3) sc_law_spoiled.nd rfl (by first | exact Or.inl rfl | exact Or.inr rfl) (pe_call (F_law_take.up (by decide)).ok hr rfl T.g_law_take.1 T.g_law_take.2 (F_law_take.up (by decide)).bn .nil (pass_own rfl rfl rfl rfl) (pa_cons (pv 0) (pa_cons (pe_callB call_lenU rfl T.n_len (by decide +kernel) (pa_cons (pv 1) pa_nil)) pa_nil))))
      (pss_cons (ps_if (pt_cmpR (op_eqP (by have := (hr).units; exact this)) (pv 2) pe_int (nomark _))
      (pss_one (ps_ret pe_str))
      pss_nil)
      (pss_cons (ps_if (pt_cmpR (op_eqP (by have := (hr).units; exact this)) (pv 2) pe_int (nomark _))
      (pss_one (ps_ret (pe_op op_addU (pv 1) (pe_slice sl_U pe_str po_none (po_some (pe_op op_sub pe_int (pe_callB call_lenU rfl T.n_len (by decide +kernel) (pa_cons (pv 1) pa_nil))))))))
      pss_nil)
      (pss_cons (ps_if (pt_cmpR (op_eqP (by have := (hr).units; exact this)) (pv 2) pe_int (nomark _))
      (pss_one (ps_ret (pe_op op_addU (pe_ix ix_seq pe_str (pe_call (F_law_take.up (by decide)).ok hr rfl T.g_law_take.1 T.g_law_take.2 (F_law_take.up (by decide)).bn .nil (pass_own rfl rfl rfl rfl) (pa_cons (pv 0) (pa_cons pe_int pa_nil))) fun _ _ => rfl) (pe_slice sl_U (pv 1) (po_some pe_int) po_none))))
      pss_nil)
      (pss_cons (ps_if (pt_cmpR (op_eqP (by have := (hr).units; exact this)) (pv 2) pe_int (nomark _))
      (pss_one (ps_ret (pe_op op_addU (pe_slice sl_U (pe_slice sl_U (pv 1) po_none (po_some (pe_op op_addU (pv 3) pe_int))) po_none (po_some pe_int)) (pe_ix ix_seq pe_str (pe_call (F_law_take.up (by decide)).ok hr rfl T.g_law_take.1 T.g_law_take.2 (F_law_take.up (by decide)).bn .nil (pass_own rfl rfl rfl rfl) (pa_cons (pv 0) (pa_cons pe_int pa_nil))) fun _ _ => rfl))))
      pss_nil)
      (pss_cons (ps_if (pt_cmpR (op_eqP (by have := (hr).units; exact this)) (pv 2) pe_int (nomark _))
      (pss_one (ps_ret (pe_ix ix_seq (pe_lst (pa_cons pe_non (pa_cons pe_int (pa_cons pe_bl (pa_cons (pe_tup (pa_cons pe_str pa_nil)) (pa_cons pe_int (pa_cons pe_str pa_nil))))))) (pe_call (F_law_take.up (by decide)).ok hr rfl T.g_law_take.1 T.g_law_take.2 (F_law_take.up (by decide)).bn .nil (pass_own rfl rfl rfl rfl) (pa_cons (pv 0) (pa_cons pe_int pa_nil))) fun _ _ => rfl)))
      pss_nil)
      (pss_one (ps_ret (pv 1)))))))))), fun ws ka out B F0 Q hC hR hX => ?_⟩)
  obtain ⟨s, b, rfl, a, p, n, x, rfl, rfl, rfl, hp, hn0, hn, hx, rfl⟩ := hC
  have hl := isNm_len hx
  obtain ⟨cs, rfl⟩ : ∃ cs, x = tx cs := ⟨x.cps.toList, str_ext rfl⟩
  rw [tx_len] at hl
  have h1 : 1 ≤ cs.length := by
    cases cs with
    | nil => cases hx
    | cons c r => rw [List.length_cons]; omega
  have hs2 : (tx cs).length ≤ 100000 := by rw [tx_len]; omega
  have t6 := tk_lt p (m := 6) (by decide)
  have o6 := tk_ok hp (m := 6) (by decide)
  obtain ⟨kd, hkd, hkd2⟩ : ∃ kd : Nat, (tk p 6).1 = (kd : Int) ∧ kd < 6 := ⟨(tk p 6).1.toNat, by omega, by omega⟩
  refine q_asg (w := .val (.int (kd : Int))) ((ev_take (kr := []) (ev_var rfl) ev_int (hp.up (by omega)) (by decide) (by decide)).to (by rw [hkd])) ?_
  generalize (tk p 6).2 = p1 at *
  have ta := tk_lt p1 (m := (cs.length : Int)) (by omega)
  have oa := tk_ok o6 (m := (cs.length : Int)) (by omega)
  obtain ⟨at_, hat, hat2⟩ : ∃ at_ : Nat, (tk p1 (cs.length : Int)).1 = (at_ : Int) ∧ at_ < cs.length := ⟨(tk p1 (cs.length : Int)).1.toNat, by omega, by omega⟩
  refine q_asg (w := .val (.int (at_ : Int))) ((ev_take (kr := []) (m := (cs.length : Int)) (ev_var rfl) ((ev_lenS (s := tx cs) (ev_var rfl) hs2).to (by rw [tx_len])) (o6.up (by omega)) (by omega) (by omega)).to (by rw [hat])) ?_
  generalize (tk p1 (cs.length : Int)).2 = p2 at *
  have t6 := tk_lt p2 (m := 6) (by decide)
  have o6 := tk_ok oa (m := 6) (by decide)
  obtain ⟨sg, hsg, hsg2⟩ : ∃ sg : Nat, (tk p2 6).1 = (sg : Int) ∧ sg < 6 := ⟨(tk p2 6).1.toNat, by omega, by omega⟩
  have tst : ∀ {j : Int} {v : Option W}, EvT K (tTest (tOp (rEqP K false) (tVar 2) (tC (.int j)))) [some (.val (.adr a)), some (.val (.str (tx cs))), some (.val (.int (kd : Int))), some (.val (.int (at_ : Int)))] [(a, .lst (Pl.ds p2))] ((kd : Int) == j) [(a, .lst (Pl.ds p2))] := fun {j v} => et_test (ev_eqI (ev_var rfl) ev_int)
  have ok2 : p2.Ok (n + 3) := oa.up (by omega)
  refine q_when (tst (v := none)) (fun _ => g_ret hR ev_str ⟨_, _, rfl, rfl, ok2, (show (0 : Nat) ≤ 20 by decide)⟩) (fun _ => ?_)
  refine q_when (tst (v := none)) (fun _ => ?_) (fun _ => ?_)
  · refine g_ret hR (ev_addT (l := cs) (m := cutD [97, 98, 99, 100, 101, 102, 103, 104, 105] none (some ((9 : Int) - cs.length))) (ev_var rfl) ((ev_slS (s := tx [97, 98, 99, 100, 101, 102, 103, 104, 105]) ev_str eo_none (eo_some (ev_subI ev_int ((ev_lenS (ev_var rfl) hs2).to (by rw [tx_len])))) (by rw [tx_len]; decide)).to (by rw [tx_cut])) ?_) ⟨_, _, rfl, rfl, ok2, ?_⟩
    · have := cut_len [97, 98, 99, 100, 101, 102, 103, 104, 105] none (some ((9 : Int) - cs.length))
      simp only [List.length_cons, List.length_nil] at this
      omega
    · show (tx _).length ≤ 20
      have := cut_len [97, 98, 99, 100, 101, 102, 103, 104, 105] none (some ((9 : Int) - cs.length))
      rw [tx_len, List.length_append]
      simp only [List.length_cons, List.length_nil] at this
      omega
  have sign : ∀ {L : List Nat} {ro : Ro}, L.length = 6 → ro[0]? = some (some (.val (.adr a))) → ∃ c, EvD K (tOp (rIx K) (tC (.str (tx L))) (tCall (spC K (ct_law_take K)) [] E (tCons (tVar 0) (tCons (tC (.int 6)) tNil)))) ro [(a, .lst (Pl.ds p2))] (.val (.str (tx [c]))) [(a, .lst (Pl.ds (tk p2 6).2))] := by
    intro L ro hL h0
    obtain ⟨c, hc⟩ : ∃ c, L[sg]? = some c := ⟨_, List.getElem?_eq_getElem (by rw [hL]; exact hsg2)⟩
    exact ⟨c, ev_ixS (s := tx L) (i := (sg : Int)) ev_str ((ev_take (kr := []) (m := 6) (ev_var h0) ev_int (oa.up (by omega)) (by decide) (by decide)).to (by rw [hsg])) (by rw [tx_len, hL]; decide) (atI_nat (j := sg) hc)⟩
  have ok3 : ((tk p2 6).2).Ok (n + 3) := o6.up (by omega)
  refine q_when (tst (v := none)) (fun _ => ?_) (fun _ => ?_)
  · obtain ⟨c, hc⟩ := sign (L := [48, 65, 95, 45, 32, 57]) rfl (ro := [some (.val (.adr a)), some (.val (.str (tx cs))), some (.val (.int (kd : Int))), some (.val (.int (at_ : Int)))]) rfl
    refine g_ret hR (ev_addT (l := [c]) (m := cutD cs (some 1) none) hc ((ev_slS (ev_var rfl) (eo_some ev_int) eo_none hs2).to (by rw [tx_cut])) ?_) ⟨_, _, rfl, rfl, ok3, ?_⟩
    · have := cut_len cs (some 1) none
      rw [List.length_singleton]
      omega
    · show (tx _).length ≤ 20
      have := cut_len cs (some 1) none
      rw [tx_len, List.length_append, List.length_singleton]
      omega
  refine q_when (tst (v := none)) (fun _ => ?_) (fun _ => ?_)
  · obtain ⟨c, hc⟩ := sign (L := [65, 95, 45, 32, 46, 124]) rfl (ro := [some (.val (.adr a)), some (.val (.str (tx cs))), some (.val (.int (kd : Int))), some (.val (.int (at_ : Int)))]) rfl
    have c1 := cut_len cs none (some ((at_ : Int) + 1))
    have c2 := cut_len (cutD cs none (some ((at_ : Int) + 1))) none (some 7)
    refine g_ret hR (ev_addT (l := cutD (cutD cs none (some ((at_ : Int) + 1))) none (some 7)) (m := [c]) ((ev_slS (s := tx (cutD cs none (some ((at_ : Int) + 1)))) ((ev_slS (ev_var rfl) eo_none (eo_some (ev_addI (ev_var rfl) ev_int)) hs2).to (by rw [tx_cut])) eo_none (eo_some ev_int) (by rw [tx_len]; omega)).to (by rw [tx_cut])) hc ?_) ⟨_, _, rfl, rfl, ok3, ?_⟩
    · rw [List.length_singleton]
      omega
    · show (tx _).length ≤ 20
      rw [tx_len, List.length_append, List.length_singleton]
      omega
  refine q_when (tst (v := none)) (fun _ => ?_) (fun _ => ?_)
  · obtain ⟨d, hd⟩ : ∃ d, ([.non, .int 7, .bl true, .tup [.str "a"], .int 0, .str "A"] : List D)[sg]? = some d := ⟨_, List.getElem?_eq_getElem (by show sg < 6; exact hsg2)⟩
    refine g_ret hR (ev_ixV (d := d) (ds := [.non, .int 7, .bl true, .tup [.str "a"], .int 0, .str "A"]) (i := (sg : Int)) (evn_lst (ds := [.non, .int 7, .bl true, .tup [.str "a"], .int 0, .str "A"]) (ea_cons ev_non (ea_cons ev_int (ea_cons ev_bl (ea3 (ev_tup (ds := [.str "a"]) (ea1 ev_str) (Nat.le_of_ble_eq_true rfl)) ev_int ev_str)))) (by decide)).lst ((ev_take (kr := []) (m := 6) (ev_var rfl) ev_int (oa.up (by omega)) (by decide) (by decide)).to (by rw [hsg])) .vl (atI_nat (j := sg) hd)) ⟨_, _, rfl, rfl, ok3, ?_⟩
    rcases (by omega : sg = 0 ∨ sg = 1 ∨ sg = 2 ∨ sg = 3 ∨ sg = 4 ∨ sg = 5) with rfl | rfl | rfl | rfl | rfl | rfl <;> cases hd <;> first | exact trivial | exact (show (1 : Nat) ≤ 20 by decide)
  · exact g_ret hR (ev_var rfl) ⟨_, _, rfl, rfl, ok2, (show (tx cs).length ≤ 20 by rw [tx_len]; omega)⟩
end
/-- what is made, or what is refused -/
def Tri (out : Oc) : Prop := (∃ d, out = Rt d []) ∨ (∃ C gs, out = Xt C gs []) ∨ ∃ C, out = X0 C []
/-- the makers of patterns -/
abbrev mkL (K : PySem.W.Frag) : List (Addr × Ct) := [(He.ga K "any_of", ct_any_of K), (He.ga K "none_of", ct_none_of K), (He.ga K "walk_of", ct_walk_of K)]
def ct_law_pattern (K : PySem.W.Frag) : Ct := Ct2 fun f b ka out => ∃ q ds, q ∈ mkL K ∧ f = .val (.adr q.1) ∧ b = .val (.lst ds) ∧ ds.length ≤ 3 ∧ q.2 [.val (.tup ds)] [] out ∧ Tri out ∧ ka = []
section
variable {P : Program} {w : World} {K : PySem.W.Frag} {mg : Str → Option Value} {base : Heap}
theorem ok_law_pattern (T : Tx K mg) (F_any_of : FnV P w K mg base 8 (He.ga K "any_of") (ct_any_of K)) (F_none_of : FnV P w K mg base 8 (He.ga K "none_of") (ct_none_of K)) (F_walk_of : FnV P w K mg base 8 (He.ga K "walk_of") (ct_walk_of K)) : Fn P w K mg base 10 (He.ga K "_law_pattern") ["_law_made_by", "_law_words"] (ct_law_pattern K) := by
  obtain ⟨fd, F⟩ := T.d_law_pattern
  refine fn_ok F sc_law_pattern (fun _ _ _ _ _ _ us hl => match us, hl with | [_, _], _ => rfl) ct2_len (fun cdv A outer s H E hr => ⟨_, (pss_cons (ps_if (pt_cmpR (op_eqP (by have := (hr).units; exact this)) (pe_callB call_lenU rfl T.n_len (by decide +kernel) (pa_cons (pv 1) pa_nil)) pe_int (nomark _))
      (pss_one (ps_ret (pe_callVL0 (i := 0) (L := [(He.ga K "any_of", (ct_any_of K)), (He.ga K "none_of", (ct_none_of K)), (He.ga K "walk_of", (ct_walk_of K))]) (List.forall_mem_cons.mpr ⟨⟨(F_any_of.up (by decide)), T.g_any_of.2⟩, (List.forall_mem_cons.mpr ⟨⟨(F_none_of.up (by decide)), T.g_none_of.2⟩, (List.forall_mem_cons.mpr ⟨⟨(F_walk_of.up (by decide)), T.g_walk_of.2⟩, (fun _ h => nomatch h)⟩)⟩)⟩) hr rfl (by first | exact Or.inl rfl | exact Or.inr (Or.inl rfl) | exact Or.inr (Or.inr rfl)) (pass_own rfl rfl rfl rfl))))
      pss_nil)
      (pss_cons (ps_if (pt_cmpR (op_eqP (by have := (hr).units; exact this)) (pe_callB call_lenU rfl T.n_len (by decide +kernel) (pa_cons (pv 1) pa_nil)) pe_int (nomark _))
      (pss_one (ps_ret (pe_callVL (i := 0) (L := [(He.ga K "any_of", (ct_any_of K)), (He.ga K "none_of", (ct_none_of K)), (He.ga K "walk_of", (ct_walk_of K))]) (List.forall_mem_cons.mpr ⟨⟨(F_any_of.up (by decide)), T.g_any_of.2⟩, (List.forall_mem_cons.mpr ⟨⟨(F_none_of.up (by decide)), T.g_none_of.2⟩, (List.forall_mem_cons.mpr ⟨⟨(F_walk_of.up (by decide)), T.g_walk_of.2⟩, (fun _ h => nomatch h)⟩)⟩)⟩) hr rfl (by first | exact Or.inl rfl | exact Or.inr (Or.inl rfl) | exact Or.inr (Or.inr rfl)) (pass_own rfl rfl rfl rfl) (pa_cons (pe_ix ix_seq (pv 1) pe_int fun _ _ => rfl) pa_nil))))
      pss_nil)
      (pss_cons (ps_if (pt_cmpR (op_eqP (by have := (hr).units; exact this)) (pe_callB call_lenU rfl T.n_len (by decide +kernel) (pa_cons (pv 1) pa_nil)) pe_int (nomark _))
      (pss_one (ps_ret (pe_callVL (i := 0) (L := [(He.ga K "any_of", (ct_any_of K)), (He.ga K "none_of", (ct_none_of K)), (He.ga K "walk_of", (ct_walk_of K))]) (List.forall_mem_cons.mpr ⟨⟨(F_any_of.up (by decide)), T.g_any_of.2⟩, (List.forall_mem_cons.mpr ⟨⟨(F_none_of.up (by decide)), T.g_none_of.2⟩, (List.forall_mem_cons.mpr ⟨⟨(F_walk_of.up (by decide)), T.g_walk_of.2⟩, (fun _ h => nomatch h)⟩)⟩)⟩) hr rfl (by first | exact Or.inl rfl | exact Or.inr (Or.inl rfl) | exact Or.inr (Or.inr rfl)) (pass_own rfl rfl rfl rfl) (pa_cons (pe_ix ix_seq (pv 1) pe_int fun _ _ => rfl) (pa_cons (pe_ix ix_seq (pv 1) pe_int fun _ _ => rfl) pa_nil)))))
      pss_nil)
      (pss_one (ps_ret (pe_callVL (i := 0) (L := [(He.ga K "any_of", (ct_any_of K)), (He.ga K "none_of", (ct_none_of K)), (He.ga K "walk_of", (ct_walk_of K))]) (List.forall_mem_cons.mpr ⟨⟨(F_any_of.up (by decide)), T.g_any_of.2⟩, (List.forall_mem_cons.mpr ⟨⟨(F_none_of.up (by decide)), T.g_none_of.2⟩, (List.forall_mem_cons.mpr ⟨⟨(F_walk_of.up (by decide)), T.g_walk_of.2⟩, (fun _ h => nomatch h)⟩)⟩)⟩) hr rfl (by first | exact Or.inl rfl | exact Or.inr (Or.inl rfl) | exact Or.inr (Or.inr rfl)) (pass_own rfl rfl rfl rfl) (pa_cons (pe_ix ix_seq (pv 1) pe_int fun _ _ => rfl) (pa_cons (pe_ix ix_seq (pv 1) pe_int fun _ _ => rfl) (pa_cons (pe_ix ix_seq (pv 1) pe_int fun _ _ => rfl) pa_nil))))))))), fun ws ka out B F0 Q hC hR hX => ?_⟩)
  obtain ⟨f, b, rfl, q, ds, hq, rfl, rfl, hl, hc, tri, rfl⟩ := hC
  have ret : ∀ (ta : List (V × W)) (De : Ends) (tr : TA), EvA K tr [some (.val (.adr q.1)), some (.val (.lst ds))] [] (ds.map W.val) [] → RtOk K B F0 out De.rt → Gp K B F0 ta (tRet (tCallV K 0 (mkL K) E tr) De) [some (.val (.adr q.1)), some (.val (.lst ds))] [] := by
    intro ta De tr ha hr
    rcases tri with ⟨d, rfl⟩ | ⟨C, gs, rfl⟩ | ⟨C, rfl⟩
    · exact g_ret hr (ev_callV hq rfl (ev_callP ha ⟨ds, rfl, by omega, hc⟩)) ⟨rfl, rfl⟩
    · exact g_retPX hX (evx_callV hq rfl (evx_call (k2 := []) (kr := []) (k3 := []) ha ⟨ds, rfl, by omega, hc⟩ rfl)) ⟨rfl, rfl⟩
    · exact g_retP0 hX (evx0_callV hq rfl (evx0_call (k2 := []) (kr := []) (k3 := []) ha ⟨ds, rfl, by omega, hc⟩ rfl)) ⟨rfl, rfl⟩
  have ln : ∀ {n : Int}, n = ds.length → EvD K (tCB (rLenU K) (tCons (tVar 1) tNil)) [some (.val (.adr q.1)), some (.val (.lst ds))] [] (.val (.int n)) [] := fun e => by rw [e]; exact ev_len (ev_var rfl) .vl
  have ix : ∀ {i : Nat} {d : D}, ds[i]? = some d → EvD K (tOp (rIx K) (tVar 1) (tC (.int (i : Int)))) [some (.val (.adr q.1)), some (.val (.lst ds))] [] (.val d) [] := fun {i d} h => ev_ixV (ev_var rfl) ev_int .vl (atI_nat h)
  have t0 : ∀ {n : Int}, n = ds.length → ∀ j : Int, EvT K (tTest (tOp (rEqP K false) (tCB (rLenU K) (tCons (tVar 1) tNil)) (tC (.int j)))) [some (.val (.adr q.1)), some (.val (.lst ds))] [] (n == j) [] := fun e j => et_test (ev_eqI (ln e) ev_int)
  have sh : ds = [] ∨ (∃ x, ds = [x]) ∨ (∃ x y, ds = [x, y]) ∨ ∃ x y z, ds = [x, y, z] := by
    match ds, hl with
    | [], _ => exact .inl rfl
    | [x], _ => exact .inr (.inl ⟨x, rfl⟩)
    | [x, y], _ => exact .inr (.inr (.inl ⟨x, y, rfl⟩))
    | [x, y, z], _ => exact .inr (.inr (.inr ⟨x, y, z, rfl⟩))
    | _ :: _ :: _ :: _ :: r, h => simp at h
  rcases sh with rfl | ⟨x, rfl⟩ | ⟨x, y, rfl⟩ | ⟨x, y, z, rfl⟩
  · exact q_when (b := true) (t0 (n := 0) rfl 0) (fun _ => ret _ _ _ ea_nil hR) (fun z => by cases z)
  · exact q_when (b := false) (t0 (n := 1) rfl 0) (fun z => by cases z) (fun _ => q_when (b := true) (t0 (n := 1) rfl 1) (fun _ => ret _ _ _ (ea1 (ix (i := 0) rfl)) hR) (fun z => by cases z))
  · exact q_when (b := false) (t0 (n := 2) rfl 0) (fun z => by cases z) (fun _ => q_when (b := false) (t0 (n := 2) rfl 1) (fun z => by cases z) (fun _ => q_when (b := true) (t0 (n := 2) rfl 2) (fun _ => ret _ _ _ (ea2 (ix (i := 0) rfl) (ix (i := 1) rfl)) hR) (fun z => by cases z)))
  · exact q_when (b := false) (t0 (n := 3) rfl 0) (fun z => by cases z) (fun _ => q_when (b := false) (t0 (n := 3) rfl 1) (fun z => by cases z) (fun _ => q_when (b := false) (t0 (n := 3) rfl 2) (fun z => by cases z) (fun _ => ret _ _ _ (ea3 (ix (i := 0) rfl) (ix (i := 1) rfl) (ix (i := 2) rfl)) hR)))
end
theorem lp_nice {t u : Tr} (nt : niceT t) (nu : niceT u) (dt : t.dep ≤ 3) (du : u.dep ≤ 3) (a1 : t.ats ≤ 8) (a2 : u.ats ≤ 8) (pr : PrOk t u 256) : LpOk t u 256 := by
  have s1 := nice_sm nt dt
  have s2 := nice_sm nu du
  have nm : ∀ p ∈ (mcT t 0).at_ ++ (mcT u 0).at_, p.2.length ≤ 3 := fun p hp => by
    rcases List.mem_append.mp hp with hp | hp
    · exact nice_at nt p hp
    · exact nice_at nu p hp
  refine ⟨s1.fits 0, s2.fits 0, fun p hp => Nat.le_trans (nm p hp) (by decide), by rw [mc_at_len, mc_at_len]; omega, pr, ?_⟩
  have := flat_le nm
  rw [List.length_append, mc_at_len, mc_at_len] at this
  have h3 : (((mcT t 0).at_ ++ (mcT u 0).at_).flatMap fun p => p.2).length * (256 + 1) ≤ 48 * (256 + 1) := Nat.mul_le_mul_right _ (by omega)
  omega
/-- what the law tells of a taker -/
def rfR (k : Nat) : Rs → List D
  | .em => if k = 2 then [] else [.str "empty"]
  | .bd e => [.str "bad", e]
  | .tr _ => if k = 4 ∨ k = 6 then [.str "bad", .str "A"] else []
/-- how a taker ends -/
inductive Res (K : PySem.W.Frag) (te : TE) (ro : Ro) (E : XK) : List D → Prop where
  | ok (h : EvR K te ro [] fun _ k => k = []) : Res K te ro E []
  | bad (d : D) (h : EvX K te ro [] E (He.ga K "BadName") [("name", d)] []) : Res K te ro E [.str "bad", d]
  | em (h : EvX0 K te ro [] E (He.ga K "EmptyWalk") []) : Res K te ro E [.str "empty"]
/-- the same, by what a row comes to -/
theorem rs_len {ds : List D} {t : Tr} (h : apR ds = .tr t) (hl : ds.length ≤ 3) : niceT t ∧ t.dep ≤ 3 ∧ t.ats ≤ 3 := by
  unfold apR at h
  cases ds with
  | nil => cases h
  | cons d r =>
    cases hf : (d :: r).find? (fun d => !isNmD d) with
    | some e => rw [hf] at h; cases h
    | none =>
      rw [hf] at h
      cases h
      rw [List.length_cons] at hl
      have all := find_ok hf
      obtain ⟨h1, h2, h3, h4⟩ := wd_ats (strN d) (r.map strN)
      rw [List.length_map] at h1 h2 h3
      refine ⟨wdT_nice fun n hn => ?_, by omega, by omega⟩
      have hn' : n ∈ (d :: r).map strN := hn
      obtain ⟨e, he, rfl⟩ := List.mem_map.mp hn'
      have := all e he
      cases e with
      | str s => exact this
      | _ => cases this
theorem lp_any {ds : List D} {t : Tr} (h : apR ds = .tr t) (hl : ds.length ≤ 3) : LpOk (.at true ["a"]) t 256 := by
  obtain ⟨n, d, a⟩ := rs_len h hl
  exact lp_nice (wdT_nice (x := "a") (xs := []) fun n hn => by rw [List.mem_singleton.mp hn]; decide +kernel) n (Nat.zero_le _) d (Nat.le_of_ble_eq_true rfl) (by omega) ((PrOk.all (.at true ["a"]) t).up (Nat.le_trans (Nat.mul_le_mul (Nat.pow_le_pow_right (by decide) (show (Tr.at true ["a"]).ats ≤ 1 from Nat.le_of_ble_eq_true rfl)) (Nat.pow_le_pow_right (by decide) a)) (by decide)))
theorem ap_A : apR [.str "A"] = .bd (.str "A") := by
  have : [D.str "A"].find? (fun d => !isNmD d) = some (.str "A") := by rw [List.find?_cons_of_pos (by decide +kernel)]
  unfold apR
  rw [this]
def l1R : Rs → List D
  | .em => [.str "empty"]
  | .bd d => [.str "bad", d]
  | .tr _ => []
def l2R : Rs → Rs → List D
  | .em, _ => [.str "empty"]
  | .bd d, _ => [.str "bad", d]
  | .tr _, r => l1R r
theorem res2 {K : PySem.W.Frag} {Cc : Ct} {tr : TA} {ro : Ro} {E : XK} {ws : List W} {r1 r2 : Rs} (ha : EvA K tr ro [] ws []) (hc : Cc ws [] (rs2 K (fun o k => k = [] ∧ ∃ d, o = .ret d) r1 r2)) : Res K (tCall (spC K Cc) [] E tr) ro E (l2R r1 r2) := by
  match r1, r2, hc with
  | .em, _, hc => exact .em (evx0_call (k2 := []) (kr := []) (k3 := []) ha hc rfl)
  | .bd d, _, hc => exact .bad d (evx_call (k2 := []) (kr := []) (k3 := []) ha hc rfl)
  | .tr _, .em, hc => exact .em (evx0_call (k2 := []) (kr := []) (k3 := []) ha hc rfl)
  | .tr _, .bd d, hc => exact .bad d (evx_call (k2 := []) (kr := []) (k3 := []) ha hc rfl)
  | .tr _, .tr _, hc => exact .ok ((evr_call (k1 := []) [] ha hc (fun o k ⟨_, d, e⟩ => ⟨d, e⟩)).imp fun w k ⟨d, k2, ⟨e, _⟩, _, e2⟩ => by rw [e2, e]; rfl)
theorem res1 {K : PySem.W.Frag} {Cc : Ct} {tr : TA} {ro : Ro} {E : XK} {ws : List W} {f : Tr → D} {r : Rs} (ha : EvA K tr ro [] ws []) (hc : Cc ws [] (rsO K (fun u => Rt (f u) []) r)) : Res K (tCall (spC K Cc) [] E tr) ro E (l1R r) := by
  match r, hc with
  | .em, hc => exact .em (evx0_call (k2 := []) (kr := []) (k3 := []) ha hc rfl)
  | .bd d, hc => exact .bad d (evx_call (k2 := []) (kr := []) (k3 := []) ha hc rfl)
  | .tr _, hc => exact .ok ((ev_callP ha hc).toR.imp fun w k ⟨_, e⟩ => e)
theorem tri_rs {K : PySem.W.Frag} {f : Tr → D} (r : Rs) : Tri (rsO K (fun u => Rt (f u) []) r) := by
  cases r with
  | em => exact .inr (.inr ⟨_, rfl⟩)
  | bd d => exact .inr (.inl ⟨_, _, rfl⟩)
  | tr u => exact .inl ⟨_, rfl⟩
def ct_law_refused (K : PySem.W.Frag) : Ct := Ct2 fun a b ka out => ∃ (ds : List D) (k : Nat), a = .val (.lst ds) ∧ b = .val (.int k) ∧ ds.length ≤ 3 ∧ (∀ d ∈ ds, nmOk d) ∧ k < 8 ∧ ka = [] ∧ out = Rt (.lst (rfR k (apR ds))) []
section
variable {P : Program} {w : World} {K : PySem.W.Frag} {mg : Str → Option Value} {base : Heap}
theorem ok_law_refused (T : Tx K mg) (F_any_of : FnV P w K mg base 8 (He.ga K "any_of") (ct_any_of K)) (F_within : Fn P w K mg base 28 (He.ga K "within") ["one", "two"] (ct_within K)) (F_parting : Fn P w K mg base 28 (He.ga K "parting") ["one", "two"] (ct_parting K)) (F_Round___init : Fn P w K mg base 8 (He.ma K (He.ga K "Round") "__init__") ["self", "lanes"] (ct_Round___init K)) (F_law_pattern : Fn P w K mg base 10 (He.ga K "_law_pattern") ["_law_made_by", "_law_words"] (ct_law_pattern K)) : Fn P w K mg base 30 (He.ga K "_law_refused") ["_law_words", "_law_kind"] (ct_law_refused K) := by
  obtain ⟨fd, F⟩ := T.d_law_refused
  refine fn_ok F sc_law_refused (fun _ _ _ _ _ _ us hl => match us, hl with | [_, _], _ => rfl) ct2_len (fun cdv A outer s H E hr => ⟨_, (pss_cons (ps_tryC (tb := fun W => (tIfS (tTest (tOp (rEqP K false) (tVar 1) (tC (.int 0)))) (tDrop (tMake (He.ga K "Round") (spC K (ct_Round___init K)) [] (XW 3 W) (tCons (tVar 0) tNil))) (tIfS (tTest (tOp (rEqP K false) (tVar 1) (tC (.int 1)))) (tDrop (tCall (spC K (ct_law_pattern K)) [] (XW 3 W) (tCons (tC (.ref (He.ga K "any_of"))) (tCons (tVar 0) tNil)))) (tIfS (tTest (tOp (rEqP K false) (tVar 1) (tC (.int 2)))) (tDrop (tCall (spC K (ct_law_pattern K)) [] (XW 3 W) (tCons (tC (.ref (He.ga K "none_of"))) (tCons (tVar 0) tNil)))) (tIfS (tTest (tOp (rEqP K false) (tVar 1) (tC (.int 3)))) (tDrop (tCall (spC K (ct_law_pattern K)) [] (XW 3 W) (tCons (tC (.ref (He.ga K "walk_of"))) (tCons (tVar 0) tNil)))) (tIfS (tTest (tOp (rEqP K false) (tVar 1) (tC (.int 4)))) (tDrop (tCall (spC K (ct_within K)) [] (XW 3 W) (tCons (tCB (rTupU K) (tCons (tVar 0) tNil)) (tCons (tTup (tCons (tC (.str "A")) tNil)) tNil)))) (tIfS (tTest (tOp (rEqP K false) (tVar 1) (tC (.int 5)))) (tDrop (tCall (spC K (ct_within K)) [] (XW 3 W) (tCons (tCall (spC K (CtV (ct_any_of K))) [] (XW 3 W) (tCons (tC (.str "a")) tNil)) (tCons (tVar 0) tNil)))) (tIfS (tTest (tOp (rEqP K false) (tVar 1) (tC (.int 6)))) (tDrop (tCall (spC K (ct_parting K)) [] (XW 3 W) (tCons (tVar 0) (tCons (tTup (tCons (tC (.str "A")) tNil)) tNil)))) (tDrop (tCall (spC K (ct_parting K)) [] (XW 3 W) (tCons (tCall (spC K (CtV (ct_any_of K))) [] (XW 3 W) (tCons (tC (.str "a")) tNil)) (tCons (tCB (rTupU K) (tCons (tVar 0) tNil)) tNil)))))))))))) (l := [(.ref (He.ga K "BadName"), (some 2), fun a cls d => (tRet (tLst (tCons (tC (.str "bad")) (tCons (tXf a cls d (He.ga K "BadName") "name" (tVar 2)) tNil))))), (.ref (He.ga K "EmptyWalk"), none, fun a cls d => (tRet (tLst (tCons (tC (.str "empty")) tNil))))]) rfl rfl (takes_of rfl rfl rfl rfl)
      (fun W pn xe tk hp => (pss_one (ps_if (pt_cmpR (op_eqP (by have := (hr).units; exact this)) (pv 1) pe_int (nomark _))
      (pss_one (ps_expr (pe_make T.mk_Round (F_Round___init.up (by decide)).ok hr rfl T.g_Round.1 (F_Round___init.up (by decide)).bn .nil (pass_xw tk) (pa_cons (pv 0) pa_nil))))
      (pss_one (ps_if (pt_cmpR (op_eqP (by have := (hr).units; exact this)) (pv 1) pe_int (nomark _))
      (pss_one (ps_expr (pe_call (F_law_pattern.up (by decide)).ok hr rfl T.g_law_pattern.1 T.g_law_pattern.2 (F_law_pattern.up (by decide)).bn .nil (pass_xw tk) (pa_cons (by exact pe_glob (v := .ref (He.ga K "any_of")) rfl T.g_any_of.1 rfl) (pa_cons (pv 0) pa_nil)))))
      (pss_one (ps_if (pt_cmpR (op_eqP (by have := (hr).units; exact this)) (pv 1) pe_int (nomark _))
      (pss_one (ps_expr (pe_call (F_law_pattern.up (by decide)).ok hr rfl T.g_law_pattern.1 T.g_law_pattern.2 (F_law_pattern.up (by decide)).bn .nil (pass_xw tk) (pa_cons (by exact pe_glob (v := .ref (He.ga K "none_of")) rfl T.g_none_of.1 rfl) (pa_cons (pv 0) pa_nil)))))
      (pss_one (ps_if (pt_cmpR (op_eqP (by have := (hr).units; exact this)) (pv 1) pe_int (nomark _))
      (pss_one (ps_expr (pe_call (F_law_pattern.up (by decide)).ok hr rfl T.g_law_pattern.1 T.g_law_pattern.2 (F_law_pattern.up (by decide)).bn .nil (pass_xw tk) (pa_cons (by exact pe_glob (v := .ref (He.ga K "walk_of")) rfl T.g_walk_of.1 rfl) (pa_cons (pv 0) pa_nil)))))
      (pss_one (ps_if (pt_cmpR (op_eqP (by have := (hr).units; exact this)) (pv 1) pe_int (nomark _))
      (pss_one (ps_expr (pe_call (F_within.up (by decide)).ok hr rfl T.g_within.1 T.g_within.2 (F_within.up (by decide)).bn .nil (pass_xw tk) (pa_cons (pe_callTy call_tupU rfl T.n_tuple (by decide +kernel) (pa_cons (pv 0) pa_nil)) (pa_cons (pe_tup (pa_cons pe_str pa_nil)) pa_nil)))))
      (pss_one (ps_if (pt_cmpR (op_eqP (by have := (hr).units; exact this)) (pv 1) pe_int (nomark _))
      (pss_one (ps_expr (pe_call (F_within.up (by decide)).ok hr rfl T.g_within.1 T.g_within.2 (F_within.up (by decide)).bn .nil (pass_xw tk) (pa_cons (pe_callS (F_any_of.up (by decide)) hr rfl T.g_any_of.1 T.g_any_of.2 (pass_xw tk) (pa_cons pe_str pa_nil)) (pa_cons (pv 0) pa_nil)))))
      (pss_one (ps_if (pt_cmpR (op_eqP (by have := (hr).units; exact this)) (pv 1) pe_int (nomark _))
      (pss_one (ps_expr (pe_call (F_parting.up (by decide)).ok hr rfl T.g_parting.1 T.g_parting.2 (F_parting.up (by decide)).bn .nil (pass_xw tk) (pa_cons (pv 0) (pa_cons (pe_tup (pa_cons pe_str pa_nil)) pa_nil)))))
      (pss_one (ps_expr (pe_call (F_parting.up (by decide)).ok hr rfl T.g_parting.1 T.g_parting.2 (F_parting.up (by decide)).bn .nil (pass_xw tk) (pa_cons (pe_callS (F_any_of.up (by decide)) hr rfl T.g_any_of.1 T.g_any_of.2 (pass_xw tk) (pa_cons pe_str pa_nil)) (pa_cons (pe_callTy call_tupU rfl T.n_tuple (by decide +kernel) (pa_cons (pv 0) pa_nil)) pa_nil))))))))))))))))))))
      (fun D base => (Deals.named (i := 2) rfl sc_law_refused.nd ⟨rfl, by decide, .inl T.g_BadName.1⟩ rfl rfl
      (fun a oe cls d pn hz hf => (pss_one (ps_ret (pe_lst (pa_cons pe_str (pa_cons (pe_xf T.xc_BadName.xf T.xn_BadName_name hz hf (pv 2)) pa_nil)))))) (Deals.plain rfl ⟨rfl, by decide, .inl T.g_EmptyWalk.1⟩
      (fun a oe cls d pn hz hf => (pss_one (ps_ret (pe_lst (pa_cons pe_str pa_nil))))) base))))
      (pss_one (ps_ret (pe_lst pa_nil)))), fun ws ka out B F0 Q hC hR hX => ?_⟩)
  obtain ⟨a, b, rfl, ds, k, rfl, rfl, hl, hd, hk, rfl, rfl⟩ := hC
  have tst : ∀ {j : Int}, EvT K (tTest (tOp (rEqP K false) (tVar 1) (tC (.int j)))) [some (.val (.lst ds)), some (.val (.int (k : Int))), none] [] ((k : Int) == j) [] := et_test (ev_eqI (ev_var rfl) ev_int)
  have fin : ∀ {te : TE} {rf : List D}, rf = rfR k (apR ds) → Res K te [some (.val (.lst ds)), some (.val (.int (k : Int))), none] (XW 3 (wCla K (fun cls d x H => E cls d H) { nx := tRet (tLst tNil) { nx := fun x H' => Q V.non H', rt := Q }, rt := Q } [(Value.ref (He.ga K "BadName"), some 2, fun a cls d => tRet (tLst (tCons (tC (V.str "bad")) (tCons (tXf a cls d (He.ga K "BadName") "name" (tVar 2)) tNil)))), (Value.ref (He.ga K "EmptyWalk"), none, fun a cls d => tRet (tLst (tCons (tC (V.str "empty")) tNil)))])) rf → Gp K B F0 [] (tDrop te { nx := tRet (tLst tNil) { nx := fun x H' => Q V.non H', rt := Q }, rt := Q }) [some (.val (.lst ds)), some (.val (.int (k : Int))), none] [] := by
    intro te rf e h
    rw [← e] at hR
    cases h with
    | ok h =>
      refine g_dropR h (fun w k0 e0 => ?_)
      subst e0
      exact g_ret (De := { nx := fun x H' => Q V.non H', rt := Q }) hR (evn_lst (ds := []) ea_nil (by decide)).lst ⟨rfl, rfl⟩
    | bad d h => exact g_dropY h (.here T.ex_BadName_BadName) fun a dx => g_ret hR ((evn_lst (ds := [.str "bad", d]) (ea2 ev_str (ev_xf (j := 0) (ev_var rfl) rfl lk1)) (show 2 ≤ 100000 by decide)).lst.less (List.nil_sublist _)) ⟨rfl, rfl⟩
    | em h => exact g_dropY0 h (.next T.ex_EmptyWalk_BadName (.here T.ex_EmptyWalk_EmptyWalk)) fun a => g_ret hR (evn_lst (ds := [.str "empty"]) (ea1 ev_str) (show 1 ≤ 100000 by decide)).lst ⟨rfl, rfl⟩
  have eqk : ∀ {j : Nat}, ((k : Int) == (j : Int)) = true → k = j := fun h => by have := eq_of_beq h; omega
  have nek : ∀ {j : Nat}, ((k : Int) == (j : Int)) = false → k ≠ j := fun h e => by rw [e, beq_self_eq_true] at h; cases h
  have tup : ∀ {ro : Ro}, ro[0]? = some (some (.val (.lst ds))) → EvD K (tCB (rTupU K) (tCons (tVar 0) tNil)) ro [] (.val (.tup ds)) [] := fun h => ev_cb (ea1 (ev_var h)) (rc_tupL .vl (.inl rfl))
  have tA : ∀ {ro : Ro}, EvD K (tTup (tCons (tC (.str "A")) tNil)) ro [] (.val (.tup [.str "A"])) [] := ev_tup (ds := [.str "A"]) (ea1 ev_str) (Nat.le_of_ble_eq_true rfl)
  have rA : RsR K (.val (.tup [.str "A"])) (.bd (.str "A")) := by
    have := rs_tup (K := K) (ds := [.str "A"]) (Nat.le_of_ble_eq_true rfl) (fun d hd => by rw [List.mem_singleton.mp hd]; exact (show (1 : Nat) ≤ 1000 by decide))
    rwa [ap_A] at this
  have rT := rs_tup (K := K) (show ds.length ≤ 8 by omega) hd
  have rL := rs_lst (K := K) (show ds.length ≤ 8 by omega) hd
  have ra : RsR K (.val (PaD K ((Tr.at true ["a"]).d false))) (.tr (.at true ["a"])) := rs_pat (Nat.le_of_ble_eq_true rfl) (nice_sm (wdT_nice (x := "a") (xs := []) fun n hn => by rw [List.mem_singleton.mp hn]; decide +kernel) (Nat.zero_le _)) (Nat.le_of_ble_eq_true rfl)
  have ea : ∀ {ro : Ro} {E' : XK}, EvD K (tCall (spC K (CtV (ct_any_of K))) [] E' (tCons (tC (.str "a")) tNil)) ro [] (.val (PaD K ((Tr.at true ["a"]).d false))) [] := fun {ro E'} => ev_callP (ea1 ev_str) ⟨[.str "a"], rfl, Nat.le_of_ble_eq_true rfl, _, rfl, [.str "a"], rfl, (fun d hd => by rw [List.mem_singleton.mp hd]; exact (show (1 : Nat) ≤ 1000 by decide)), rfl, (by rw [ap_rs]; rfl)⟩
  have mk : ∀ {nm : Str} {Cc : Ct} {f : Tr → D} {r : Rs}, ((He.ga K nm, Cc) : Addr × Ct) ∈ mkL K → Cc [.val (.tup ds)] [] (rsO K (fun u => Rt (f u) []) r) → ct_law_pattern K [.val (.adr (He.ga K nm)), .val (.lst ds)] [] (rsO K (fun u => Rt (f u) []) r) := fun {nm Cc f r} hm h => ⟨_, _, rfl, (He.ga K nm, Cc), ds, hm, rfl, rfl, hl, h, tri_rs r, rfl⟩
  refine g_seq ?_
  refine g_if tst (fun hb => ?_) (fun hb => ?_)
  · obtain rfl := eqk (j := 0) hb
    refine fin rfl ?_
    cases hr : apR ds with
    | em => exact .em (evx0_mk (k1 := []) (ea1 (ev_var rfl)) (fun a => ⟨_, _, rfl, a, ds, rfl, rfl, rfl, hd, by unfold rdOut; rw [hr]⟩) rfl)
    | bd e => exact .bad e (evx_mk (k1 := []) (ea1 (ev_var rfl)) (fun a => ⟨_, _, rfl, a, ds, rfl, rfl, rfl, hd, by unfold rdOut; rw [hr]⟩) rfl)
    | tr u => exact .ok ((ev_roundR (ev_var rfl) hd hr).toR.imp fun w k ⟨_, e⟩ => e)
  have h0 := nek (j := 0) hb
  refine g_if tst (fun hb => ?_) (fun hb => ?_)
  · obtain rfl := eqk (j := 1) hb
    refine fin ?_ (res1 (ea2 ev_ref (ev_var rfl)) (mk List.mem_cons_self ⟨_, rfl, ds, rfl, hd, rfl, (ap_rs ds).symm⟩))
    generalize apR ds = q; cases q <;> rfl
  have h1 := nek (j := 1) hb
  refine g_if tst (fun hb => ?_) (fun hb => ?_)
  · obtain rfl := eqk (j := 2) hb
    have mem : ((He.ga K "none_of", ct_none_of K) : Addr × Ct) ∈ mkL K := List.mem_cons_of_mem _ List.mem_cons_self
    cases ds with
    | nil => exact fin rfl (res1 (r := .tr (.at false [])) (f := fun _ => PaD K ((Tr.at false []).d false)) (ea2 ev_ref (ev_var rfl)) (mk mem ⟨_, rfl, [], rfl, hd, rfl, rfl⟩))
    | cons d r =>
      refine fin ?_ (res1 (r := apR (d :: r)) (f := fun _ => PaD K ((Tr.at false ((d :: r).map strN)).d false)) (ea2 ev_ref (ev_var rfl)) (mk mem ⟨_, rfl, d :: r, rfl, hd, rfl, by rw [← ap_rs]; exact (if_neg (List.cons_ne_nil _ _)).symm⟩))
      have ne : apR (d :: r) ≠ .em := by
        cases hf : (d :: r).find? (fun d => !isNmD d) with
        | none => rw [ap_none2 hf]; exact fun z => by cases z
        | some e => rw [ap_some2 hf]; exact fun z => by cases z
      generalize apR (d :: r) = q at ne
      cases q with
      | em => exact absurd rfl ne
      | bd d => rfl
      | tr u => rfl
  have h2 := nek (j := 2) hb
  refine g_if tst (fun hb => ?_) (fun hb => ?_)
  · obtain rfl := eqk (j := 3) hb
    refine fin ?_ (res1 (ea2 ev_ref (ev_var rfl)) (mk (List.mem_cons_of_mem _ (List.mem_cons_of_mem _ List.mem_cons_self)) ⟨_, rfl, ds, rfl, by omega, hd, rfl, (ap_rs ds).symm⟩))
    generalize apR ds = q; cases q <;> rfl
  have h3 := nek (j := 3) hb
  refine g_if tst (fun hb => ?_) (fun hb => ?_)
  · obtain rfl := eqk (j := 4) hb
    refine fin ?_ (res2 (ea2 (tup rfl) tA) ⟨_, _, rfl, apR ds, .bd (.str "A"), 0, rT, rA, (fun _ _ _ z => by cases z), rfl, rfl⟩)
    generalize apR ds = q; cases q <;> rfl
  have h4 := nek (j := 4) hb
  refine g_if tst (fun hb => ?_) (fun hb => ?_)
  · obtain rfl := eqk (j := 5) hb
    refine fin ?_ (res2 (ea2 ea (ev_var rfl)) ⟨_, _, rfl, .tr (.at true ["a"]), apR ds, 256, ra, rL, (fun t u h1 h2 => by cases h1; exact lp_any h2 hl), rfl, rfl⟩)
    generalize apR ds = q; cases q <;> rfl
  have h5 := nek (j := 5) hb
  refine g_if tst (fun hb => ?_) (fun hb => ?_)
  · obtain rfl := eqk (j := 6) hb
    refine fin ?_ (res2 (ea2 (ev_var rfl) tA) ⟨_, _, rfl, apR ds, .bd (.str "A"), 0, rL, rA, (fun _ _ _ z => by cases z), rfl, rfl⟩)
    generalize apR ds = q; cases q <;> rfl
  have h6 := nek (j := 6) hb
  obtain rfl : k = 7 := by omega
  refine fin ?_ (res2 (ea2 ea (tup rfl)) ⟨_, _, rfl, .tr (.at true ["a"]), apR ds, 256, ra, rT, (fun t u h1 h2 => by cases h1; exact lp_any h2 hl), rfl, rfl⟩)
  generalize apR ds = q; cases q <;> rfl
end
/-- a clause's name is gone -/
theorem Gp.gone {K : PySem.W.Frag} {B F0 : Hp} {ta : List (V × W)} {P : L2.St → Hp → Prop} {ro : Ro} {ka : Cells} {i : Nat} (h : Gp K B F0 ta P (ro.set i none) ka) : Gp K B F0 ta (fun σ H => P (σ.set i none) H) ro ka := fun sg H e => by
  obtain ⟨F, g, q⟩ := e
  refine h _ _ ⟨F, g, q.frame (by rw [List.length_set, List.length_set, q.ln]) fun j w hj => ?_⟩
  by_cases hij : i = j
  · subst hij
    have hi : i < ro.length := by
      have := (List.getElem?_eq_some_iff.mp hj).1
      rwa [List.length_set] at this
    rw [List.getElem?_set_self hi] at hj
    cases hj
  · rw [List.getElem?_set_ne hij] at hj ⊢
    exact q.sl j w hj
theorem q_seqI {K : PySem.W.Frag} {B F0 : Hp} {ta : List (V × W)} {t u : TS} {De : Ends} {ro : Ro} {ka : Cells} (Inv : Ro → Cells → Prop) (h : ∀ nx, (∀ ro2 ka2, Inv ro2 ka2 → Gp K B F0 ta nx ro2 ka2) → Gp K B F0 ta (t { De with nx := nx }) ro ka) (k : ∀ ro2 ka2, Inv ro2 ka2 → Gp K B F0 ta (u De) ro2 ka2) : Gp K B F0 ta (tSeq t u De) ro ka := h (u De) k
/-- what the law wishes of a word -/
def wsD (d : D) : D := if isNmD d = true then .bl true else .lst [.str "bad", d]
def ct_law_added (K : PySem.W.Frag) : Ct := Ct1 fun a ka out => ∃ d, a = .val d ∧ bwOk d ∧ ka = [] ∧ out = Rt (.lst [wsD d, wsD d]) []
section
variable {P : Program} {w : World} {K : PySem.W.Frag} {mg : Str → Option Value} {base : Heap}
theorem ok_law_added (T : Tx K mg) (F_Net___init : FnE P w K mg base 4 (He.ma K (He.ga K "Net") "__init__") ["self", "order", "ends_by_lane"] [.ref (He.dflAt ("Net", some "__init__") 0 K), .non] (ct_Net___init K)) (F_Net_posts : Fn P w K mg base 4 (pga K (He.ga K "Net") "posts") ["self"] (ct_Net_posts K)) (F_Net_lanes : Fn P w K mg base 4 (pga K (He.ga K "Net") "lanes") ["self"] (ct_Net_lanes K)) (F_Net_post : Fn P w K mg base 6 (He.ma K (He.ga K "Net") "post") ["self", "name"] (ct_Net_post K)) (F_Net_lane : Fn P w K mg base 6 (He.ma K (He.ga K "Net") "lane") ["self", "name", "start", "end"] (ct_Net_lane K)) : Fn P w K mg base 8 (He.ga K "_law_added") ["_law_word"] (ct_law_added K) := by
  obtain ⟨fd, F⟩ := T.d_law_added
  refine fn_ok F sc_law_added (fun _ _ _ _ _ _ us hl => match us, hl with | [_], _ => rfl) ct1_len (fun cdv A outer s H E hr => ⟨_, (pss_cons (ps_set (i := 1) sc_law_added.nd rfl (by first | exact Or.inl rfl | exact Or.inr rfl) (pe_make0 T.mk_Net (F_Net___init.d.up (by decide)).ok hr rfl T.g_Net.1 (F_Net___init.d.up (by decide)).bn (F_Net___init.d.up (by decide)).dv (pass_own rfl rfl rfl rfl)))
      (pss_cons (ps_set (i := 2) sc_law_added.nd rfl (by first | exact Or.inl rfl | exact Or.inr rfl) (pe_lst pa_nil))
      (pss_cons (ps_try_as (tb := fun W => (tSeq (tDrop (tAtS fun sg => tMeth (He.ga K "Net") "post" (spC K (ct_Net_post K)) [] (WE W sg) (tVar 1) (tCons (tVar 0) tNil))) (tDrop (tBM K "list" rAppend (tVar 2) (tCons (tOp (rEqP K false) (tProp (He.ga K "Net") (spC K (ct_Net_posts K)) [] (fun _ _ _ => False) (tVar 1)) (tTup (tCons (tVar 0) tNil))) tNil))))) (ts := fun a cls d => (tDrop (tBM K "list" rAppend (tVar 2) (tCons (tLst (tCons (tC (.str "bad")) (tCons (tXf a cls d (He.ga K "BadName") "name" (tVar 3)) tNil))) tNil)))) rfl rfl sc_law_added.nd (i := 3) rfl rfl ⟨rfl, by decide, .inl T.g_BadName.1⟩ (takes_of rfl rfl rfl rfl)
      (fun W pn xe tk hp => (pss_cons (ps_expr (pe_methSD (F_Net_post.up (by decide)).ok hr (F_Net_post.up (by decide)).bn .nil (passAt tk) (pv 1) T.cl_Net T.me_Net_post (pa_cons (pv 0) pa_nil)))
      (pss_one (ps_expr (pe_bm PySem.F.plainAttrs_list PySem.F.slot_list_append PySem.F.type_list_append mt_append (pv 2) (pa_cons (pe_cmpR (op_eqP (by have := (hr).units; exact this)) (pe_prop (pv 1) T.cl_Net T.pr_Net_posts (F_Net_posts.up (by decide)).ok hr (F_Net_posts.up (by decide)).bn .nil passes_no rfl) (pe_tup (pa_cons (pv 0) pa_nil)) (nomark _)) pa_nil))))))
      (fun a oe cls d pn hz hf => (pss_one (ps_expr (pe_bm PySem.F.plainAttrs_list PySem.F.slot_list_append PySem.F.type_list_append mt_append (pv 2) (pa_cons (pe_lst (pa_cons pe_str (pa_cons (pe_xf T.xc_BadName.xf T.xn_BadName_name hz hf (pv 3)) pa_nil))) pa_nil))))))
      (pss_cons (ps_set (i := 4) sc_law_added.nd rfl (by first | exact Or.inl rfl | exact Or.inr rfl) (pe_make0 T.mk_Net (F_Net___init.d.up (by decide)).ok hr rfl T.g_Net.1 (F_Net___init.d.up (by decide)).bn (F_Net___init.d.up (by decide)).dv (pass_own rfl rfl rfl rfl)))
      (pss_cons (ps_expr (pe_meth (pv 4) T.cl_Net T.me_Net_post (F_Net_post.up (by decide)).ok hr (F_Net_post.up (by decide)).bn .nil (pass_own rfl rfl rfl rfl) (pa_cons pe_str pa_nil)))
      (pss_cons (ps_try_as (tb := fun W => (tSeq (tDrop (tAtS fun sg => tMeth (He.ga K "Net") "lane" (spC K (ct_Net_lane K)) [] (WE W sg) (tVar 4) (tCons (tVar 0) (tCons (tC (.str "z")) (tCons (tC (.str "z")) tNil))))) (tDrop (tBM K "list" rAppend (tVar 2) (tCons (tOp (rEqP K false) (tProp (He.ga K "Net") (spC K (ct_Net_lanes K)) [] (fun _ _ _ => False) (tVar 4)) (tTup (tCons (tVar 0) tNil))) tNil))))) (ts := fun a cls d => (tDrop (tBM K "list" rAppend (tVar 2) (tCons (tLst (tCons (tC (.str "bad")) (tCons (tXf a cls d (He.ga K "BadName") "name" (tVar 3)) tNil))) tNil)))) rfl rfl sc_law_added.nd (i := 3) rfl rfl ⟨rfl, by decide, .inl T.g_BadName.1⟩ (takes_of rfl rfl rfl rfl)
      (fun W pn xe tk hp => (pss_cons (ps_expr (pe_methSD (F_Net_lane.up (by decide)).ok hr (F_Net_lane.up (by decide)).bn .nil (passAt tk) (pv 4) T.cl_Net T.me_Net_lane (pa_cons (pv 0) (pa_cons pe_str (pa_cons pe_str pa_nil)))))
      (pss_one (ps_expr (pe_bm PySem.F.plainAttrs_list PySem.F.slot_list_append PySem.F.type_list_append mt_append (pv 2) (pa_cons (pe_cmpR (op_eqP (by have := (hr).units; exact this)) (pe_prop (pv 4) T.cl_Net T.pr_Net_lanes (F_Net_lanes.up (by decide)).ok hr (F_Net_lanes.up (by decide)).bn .nil passes_no rfl) (pe_tup (pa_cons (pv 0) pa_nil)) (nomark _)) pa_nil))))))
      (fun a oe cls d pn hz hf => (pss_one (ps_expr (pe_bm PySem.F.plainAttrs_list PySem.F.slot_list_append PySem.F.type_list_append mt_append (pv 2) (pa_cons (pe_lst (pa_cons pe_str (pa_cons (pe_xf T.xc_BadName.xf T.xn_BadName_name hz hf (pv 3)) pa_nil))) pa_nil))))))
      (pss_one (ps_ret (pv 2))))))))), fun ws ka out B F0 Q hC hR hX => ?_⟩)
  obtain ⟨a, rfl, d, rfl, hd, rfl, rfl⟩ := hC
  have hnm := bw_nm hd
  refine q_asgR (evr_make (P := fun w k => ∃ a o d, w = .val (.adr a) ∧ k = NetC K a o d [] []) ea_nil (dv_cons (wok_t0 T.t0_Net___init) (dv_cons (w := .val .non) (fun _ _ => rfl) dv_nil)) fun a => ⟨_, ⟨_, _, _, rfl, a, true, false, [], [], rfl, rfl, .vt, Nat.zero_le _, Nat.zero_le _, List.nodup_nil, .inl ⟨rfl, rfl⟩, rfl⟩, fun o' k ⟨o, d, h1, h2⟩ => ⟨h1, a, o, d, rfl, h2⟩⟩) fun w k1 ⟨n, o, dd, h1, h2⟩ => ?_
  subst h1 h2
  refine q_asgN (evn_lst (ds := []) ea_nil (by decide)) fun f => ?_
  refine q_seqI (fun ro ka => ∃ v1 v3, ro = [some (.val d), v1, some (.val (.adr f)), v3, none] ∧ ka = [(f, .lst [wsD d])]) (fun nx hnx => ?_) (fun ro ka ⟨v1, v3, e1, e2⟩ => ?_)
  · cases hb : isNmD d with
    | false =>
      have hw : wsD d = .lst [.str "bad", d] := if_neg (by rw [hb]; decide)
      rw [hw] at hnx
      refine g_seq (g_dropXS (C1 := He.ga K "BadName") (gs := [("name", d)]) (k2 := NetC K n o dd [] [] ++ [(f, .lst [])]) (fun sg => evx_meth (k2 := NetC K n o dd [] []) (k3 := NetC K n o dd [] []) [(f, .lst [])] (ev_var rfl) (.c 0 rfl) rfl (ea1 (ev_var rfl)) ⟨_, _, rfl, n, o, dd, [], [], d, rfl, rfl, hnm, by decide, rfl, by unfold poO; rw [if_pos hb]⟩ rfl) T.ex_BadName_BadName fun a dx => ?_)
      refine g_app (j0 := 3) (j := 3) (d := .lst [.str "bad", d]) (ds := []) (ev_var rfl) rfl (evn_lst (ds := [.str "bad", d]) (ea2 ev_str (ev_xf (j := 4) (ev_var rfl) rfl lk1)) (show 2 ≤ 100000 by decide)).lst rfl (by decide) (Gp.gone ?_)
      exact Gp.less (k1 := [(f, .lst [.lst [.str "bad", d]])]) (hnx _ _ ⟨_, _, rfl, rfl⟩) (.cons _ (.cons _ (.cons _ (.cons₂ _ (List.nil_sublist _)))))
    | true =>
      obtain ⟨s, rfl⟩ : ∃ s, d = .str s := by
        cases d with
        | str s => exact ⟨s, rfl⟩
        | _ => cases hb
      have hw : wsD (.str s) = .bl true := if_pos hb
      rw [hw] at hnx
      refine g_seq (g_drop (EvD.atS fun sg => ev_methA (k2 := NetC K n o dd [] []) (k3 := NetC K n o dd [s] []) [(f, .lst [])] (ev_var rfl) (.c 0 rfl) rfl (ea1 (ev_var rfl)) ⟨_, _, rfl, n, o, dd, [], [], .str s, rfl, rfl, hnm, by decide, rfl, by unfold poO; rw [if_neg (by rw [hb]; decide)]; rfl⟩) ?_)
      refine g_app (j0 := 3) (j := 3) (d := .bl true) (ds := []) (ev_var rfl) rfl ((ev_eq (d := .tup (stD [s])) (e := .tup [.str s]) (ev_prop (k1 := NetC K n o dd [s] []) [(f, .lst [])] (ev_var rfl) (.c 0 rfl) ⟨_, rfl, [s], [], ⟨.inr ⟨n, o, dd, rfl, rfl⟩⟩, rfl⟩ fun _ _ z => z) (ev_tup (ds := [.str s]) (ea1 (ev_var rfl)) (Nat.le_of_ble_eq_true rfl)) .v .v rfl rfl).to ?e1) rfl (by decide) ?_
      case e1 => rw [show eqD (.tup (stD [s])) (.tup [.str s]) = true from (eqL_stD [s] [s]).trans (decide_eq_true rfl)]
      exact Gp.less (k1 := [(f, .lst [.bl true])]) (hnx _ _ ⟨_, _, rfl, rfl⟩) (.cons _ (.cons _ (.cons _ (.cons₂ _ (List.nil_sublist _)))))
  · subst e1 e2
    refine q_asgR (evr_makeF (k1 := []) (P := fun w k => ∃ a o d2, w = .val (.adr a) ∧ k = NetC K a o d2 [] [] ++ [(f, .lst [wsD d])]) [(f, .lst [wsD d])] ea_nil (dv_cons (wok_t0 T.t0_Net___init) (dv_cons (w := .val .non) (fun _ _ => rfl) dv_nil)) fun a => ⟨_, ⟨_, _, _, rfl, a, true, false, [], [], rfl, rfl, .vt, Nat.zero_le _, Nat.zero_le _, List.nodup_nil, .inl ⟨rfl, rfl⟩, rfl⟩, fun o' k ⟨o, d, h1, h2⟩ => ⟨h1, a, o, d, rfl, by rw [h2]⟩⟩) fun w k1 ⟨n, o, dd, h1, h2⟩ => ?_
    subst h1 h2
    refine q_drop (ev_methA (d := .non) (k2 := NetC K n o dd [] []) (k3 := NetC K n o dd ["z"] []) [(f, .lst [wsD d])] (ev_var rfl) (.c 0 rfl) rfl (ea1 ev_str) ⟨_, _, rfl, n, o, dd, [], [], .str "z", rfl, rfl, (show (1 : Nat) ≤ 1000 by decide), by decide, rfl, by unfold poO; rw [if_neg (by decide +kernel)]; rfl⟩) ?_
    refine q_seqI (fun ro ka => ∃ v1 v3 v4, ro = [some (.val d), v1, some (.val (.adr f)), v3, v4] ∧ ka = [(f, .lst [wsD d, wsD d])]) (fun nx hnx => ?_) (fun ro ka ⟨v1, v3, v4, e1, e2⟩ => ?_)
    · generalize hx : wsD d = x at *
      cases hb : isNmD d with
      | false =>
        have hw : .lst [.str "bad", d] = x := by rw [← hx]; exact (if_neg (by rw [hb]; decide)).symm
        refine g_seq (g_dropXS (C1 := He.ga K "BadName") (gs := [("name", d)]) (k2 := NetC K n o dd ["z"] [] ++ [(f, .lst [x])]) (fun sg => evx_meth (k2 := NetC K n o dd ["z"] []) (k3 := NetC K n o dd ["z"] []) [(f, .lst [x])] (ev_var rfl) (.c 0 rfl) rfl (ea3 (ev_var rfl) ev_str ev_str) ⟨_, _, _, _, rfl, n, o, dd, ["z"], [], d, "z", "z", rfl, rfl, hnm, rfl, rfl, by decide, rfl, by unfold laO; rw [if_pos hb]⟩ rfl) T.ex_BadName_BadName fun a dx => ?_)
        refine g_app (j0 := 3) (j := 3) (d := .lst [.str "bad", d]) (ds := [x]) (ev_var rfl) rfl (evn_lst (ds := [.str "bad", d]) (ea2 ev_str (ev_xf (j := 4) (ev_var rfl) rfl lk1)) (show 2 ≤ 100000 by decide)).lst rfl (show 1 < 100000 by decide) (Gp.gone ?_)
        rw [hw]
        exact Gp.less (k1 := [(f, .lst [x, x])]) (hnx _ _ ⟨_, _, _, rfl, rfl⟩) (.cons _ (.cons _ (.cons _ (.cons₂ _ (List.nil_sublist _)))))
      | true =>
        obtain ⟨s, rfl⟩ : ∃ s, d = .str s := by
          cases d with
          | str s => exact ⟨s, rfl⟩
          | _ => cases hb
        have hw : .bl true = x := by rw [← hx]; exact (if_pos hb).symm
        refine g_seq (g_drop (EvD.atS fun sg => ev_methA (k2 := NetC K n o dd ["z"] []) (k3 := NetC K n o dd ["z"] [(s, "z", "z")]) [(f, .lst [x])] (ev_var rfl) (.c 0 rfl) rfl (ea3 (ev_var rfl) ev_str ev_str) ⟨_, _, _, _, rfl, n, o, dd, ["z"], [], .str s, "z", "z", rfl, rfl, hnm, rfl, rfl, by decide, rfl, by unfold laO; rw [if_neg (by rw [hb]; decide)]; rfl⟩) ?_)
        refine Gp.frzN (i := 4) (kr := [(f, .lst [x])]) rfl (show ([(f, Nd.lst [x])] ++ NetC K n o dd ["z"] [(s, "z", "z")]).Perm _ from List.perm_append_comm) ?_
        refine g_app (j0 := 0) (j := 0) (d := .bl true) (ds := [x]) (ev_var rfl) rfl ((ev_eq (d := .tup (stD [s])) (e := .tup [.str s]) (ev_prop (k1 := []) [(f, .lst [x])] (ev_var rfl) .v ⟨_, rfl, ["z"], [(s, "z", "z")], rfl, (show 1 ≤ 50000 by decide), rfl, rfl⟩ fun _ _ z => z) (ev_tup (ds := [.str s]) (ea1 (ev_var rfl)) (Nat.le_of_ble_eq_true rfl)) .v .v rfl rfl).to ?e1) rfl (show 1 < 100000 by decide) ?_
        case e1 => rw [show eqD (.tup (stD [s])) (.tup [.str s]) = true from (eqL_stD [s] [s]).trans (decide_eq_true rfl)]
        rw [hw]
        exact hnx _ _ ⟨_, _, _, rfl, rfl⟩
    · subst e1 e2
      exact Gp.frz (i := 2) (j := 0) rfl rfl (g_ret hR (ev_var rfl) ⟨rfl, rfl⟩)
end
def ct_law_is_name (K : PySem.W.Frag) : Ct := Ct1 fun a ka out => ∃ d, a = .val d ∧ nmOk d ∧ ka = [] ∧ out = Rt (.bl (isNmD d)) []
section
variable {P : Program} {w : World} {K : PySem.W.Frag} {mg : Str → Option Value} {base : Heap}
theorem ok_law_is_name (T : Tx K mg) : Fn P w K mg base 4 (He.ga K "_law_is_name") ["_law_word"] (ct_law_is_name K) := by
  obtain ⟨fd, F⟩ := T.d_law_is_name
  refine fn_ok F sc_law_is_name (fun _ _ _ _ _ _ us hl => match us, hl with | [_], _ => rfl) ct1_len (fun cdv A outer s H E hr => ⟨_, (pss_cons (ps_set (i := 1) sc_law_is_name.nd rfl (by first | exact Or.inl rfl | exact Or.inr rfl) pe_str)
      (pss_cons (ps_if (PW.pt (pw_or (pt_not (pt_val (pe_callB call_isi rfl T.n_isinstance (by decide +kernel) (pa_cons (pv 0) (pa_cons (pe_bltn (v := .ty "str") rfl T.n_str (by decide +kernel) rfl) pa_nil))))) (pw_or (pt_cmpR (op_eqP (by have := (hr).units; exact this)) (pv 0) pe_str (nomark _)) (pw_or (pt_cmpR op_gt (pe_callB call_lenU rfl T.n_len (by decide +kernel) (pa_cons (pv 0) pa_nil)) pe_int (nomark _)) (pw_or1 (pt_cmpR op_niU (pe_ix ix_seq (pv 0) pe_int fun _ _ => rfl) (pv 1) (by with_unfolding_all rfl)))))))
      (pss_one (ps_ret pe_bl))
      pss_nil)
      (pss_one (ps_ret (pe_cmpR (op_eqP (by have := (hr).units; exact this)) (pe_lc (te := (tVar 2)) (tt := (tTest (tOp (rNiU K) (tVar 2) (tOp (rAddU K) (tVar 1) (tC (.str "0123456789")))))) (own := [("_law_sign", 2)]) rfl sc_law_is_name.nd (pi_seq (pv 0)) (blk_ok ["_law_word", "_law_letters", "_law_sign"] (defScope s_law_is_name) rfl rfl (by decide +kernel)) (fun _ _ _ _ _ => (pg_name (i := 2) sc_law_is_name.nd rfl (by first | exact Or.inl rfl | exact Or.inr rfl))) (fun _ _ _ _ _ => (pts_one (pt_cmpR op_niU (pv 2) (pe_op op_addU (pv 1) pe_str) (by with_unfolding_all rfl)))) (fun _ _ _ _ _ => (pv 2))) (pe_lst pa_nil) (nomark _)))))), fun ws ka out B F0 Q hC hR hX => ?_⟩)
  obtain ⟨a, rfl, d, rfl, hd, rfl, rfl⟩ := hC
  have other : (∃ s, d = .str s) ∨ ∃ t, tyD d = some t ∧ kitOne K (.type t) (.type "str") = some false ∧ isNmD d = false := by
    cases d with
    | non => exact .inr ⟨_, rfl, T.kt_NoneType_str, rfl⟩
    | bl b => exact .inr ⟨_, rfl, T.kt_bool_str, rfl⟩
    | int i => exact .inr ⟨_, rfl, T.kt_int_str, rfl⟩
    | lst ds => exact .inr ⟨_, rfl, T.kt_list_str, rfl⟩
    | tup ds => exact .inr ⟨_, rfl, T.kt_tuple_str, rfl⟩
    | str s => exact .inl ⟨s, rfl⟩
    | _ => exact absurd rfl hd
  refine q_asg ev_str ?_
  rcases other with ⟨s, rfl⟩ | ⟨t, ht, hk, hn⟩
  · have hs : s.length ≤ 100000 := Nat.le_trans hd (by decide)
    cases hc : s.cps.toList with
    | nil =>
      have e := str_nil hc
      refine q_when (et_or0 ((et_not (et_B (ev_isi (ev_var rfl) .str T.kt_str_str))).to rfl) (et_or1 ((et_test (ev_eqS (ev_var rfl) ev_str)).to (by rw [e]; rfl)))) (fun _ => g_ret hR ev_bl ⟨?_, rfl⟩) (fun z => by cases z)
      show Out.ret (.bl false) = Out.ret (.bl (isNm s))
      unfold isNm
      rw [hc]
      rfl
    | cons c r =>
      have e : (s == ("" : Str)) = false := by
        refine beq_eq_false_iff_ne.mpr fun z => ?_
        rw [z] at hc
        cases hc
      have hl : s.length = (c :: r).length := by rw [str_len, hc]
      refine q_when (et_or0 ((et_not (et_B (ev_isi (ev_var rfl) .str T.kt_str_str))).to rfl) (et_or0 ((et_test (ev_eqS (ev_var rfl) ev_str)).to e) (et_or (et_test (ev_gt (ev_lenS (ev_var rfl) hs) ev_int)) (fun _ => et_test (ev_niS (ev_ixS (c := c) (ev_var rfl) ev_int hs (by rw [hc]; exact at0)) (ev_var rfl)))))) (fun hb => g_ret hR ev_bl ⟨?_, rfl⟩) (fun hb => ?_)
      · show Out.ret (.bl false) = Out.ret (.bl (isNm s))
        unfold isNm nmL
        rw [hc]
        rw [Bool.or_eq_true, decide_eq_true_eq, Bool.not_eq_true', decide_eq_false_iff_not] at hb
        rcases hb with hb | hb
        · have : ¬ (c :: r).length ≤ 8 := by rw [← hl]; omega
          simp only [decide_eq_false this, Bool.false_and]
        · have : decide (c ∈ letL) = false := decide_eq_false hb
          simp only [this, Bool.false_and, Bool.and_false]
      · rw [Bool.or_eq_false_iff, decide_eq_false_iff_not, Bool.not_eq_false', decide_eq_true_eq] at hb
        have h1 : (c :: r).length ≤ 8 := by rw [← hl]; omega
        have h2 : decide (c ∈ letL) = true := decide_eq_true hb.2
        refine g_ret hR ((ev_eq (d := .lst (stD ((s.cps.toList.filter fun x => !decide (x ∈ letL ++ digL)).map fun x => (⟨#[x]⟩ : Str)))) (e := .lst []) ((evn_filt (xs := s.cps.toList) (g := fun x => W.val (.str ⟨#[x]⟩)) (f := fun x => D.str ⟨#[x]⟩) (p := fun x => !decide (x ∈ letL ++ digL)) (ei_str (ev_var rfl)) (by decide) (by rw [← str_len]; omega) ⟨trivial, fun _ => trivial⟩ (fun x hx => et_test (ev_niS (ev_var rfl) (ev_addT (l := letL) (m := digL) ((ev_var rfl).to (by rw [letters_tx])) (ev_str.to (congrArg (fun z => W.val (.str z)) (str_ext rfl))) (Nat.le_of_ble_eq_true rfl)))) (fun x hx _ => ev_var rfl)).lst.to (by unfold stD; rw [List.map_map]; rfl)) (evn_lst (ds := []) ea_nil (by decide)).lst .v .v (pl_stD _ 60) rfl)) ⟨?_, rfl⟩
        show Out.ret _ = Out.ret (.bl (isNm s))
        unfold isNm nmL
        rw [hc]
        simp only [decide_eq_true h1, h2, Bool.true_and]
        have key : ∀ l : List Nat, eqD (.lst (stD ((l.filter fun x => !decide (x ∈ letL ++ digL)).map fun x => (⟨#[x]⟩ : Str)))) (.lst []) = l.all fun x => decide (x ∈ letL) || decide (x ∈ digL) := by
          intro l
          induction l with
          | nil => rfl
          | cons x l ih =>
            rw [List.filter_cons, List.all_cons]
            have ed : decide (x ∈ letL ++ digL) = (decide (x ∈ letL) || decide (x ∈ digL)) := by rw [← Bool.decide_or]; exact decide_eq_decide.mpr List.mem_append
            cases hx : (decide (x ∈ letL) || decide (x ∈ digL)) with
            | true => rw [ed, hx, Bool.true_and]; exact ih
            | false => rw [ed, hx, Bool.false_and]; rfl
        rw [← key]
  · exact q_when (et_or1 ((et_not (et_B (ev_isi (ev_var rfl) (tw_of ht) hk))).to rfl)) (fun _ => g_ret hR ev_bl ⟨by rw [hn], rfl⟩) (fun z => by cases z)
end
theorem evr_lcR {K : PySem.W.Frag} {ro : Ro} {ka k1 : Cells} {te : TE} {tt : TT} {wi : TI} {ws : List W} {C : Cells → Prop} {j : Nat} {vs : List Nat} (h : EvI K wi ro ka ws C k1) (hj : j ∈ vs) (hn : ws.length ≤ 1000000) (Inv : Nat → List D → Cells → Prop) (h0 : Inv 0 [] k1) (hC : ∀ i acc k, Inv i acc k → C k ∧ ∀ x, C (k ++ [x]))
    (hs : ∀ i w acc k, ws[i]? = some w → Inv i acc k → (∃ k2, EvT K tt ((wipeR ro vs).set j (some w)) k false k2 ∧ Inv (i + 1) acc k2) ∨ ∃ k2, EvT K tt ((wipeR ro vs).set j (some w)) k true k2 ∧ EvR K te ((wipeR ro vs).set j (some w)) k2 (fun y k3 => ∃ d, y = .val d ∧ Inv (i + 1) (acc ++ [d]) k3))
    : EvNR K (tLc wi (gName j) tt te vs) ro ka (fun n k => ∃ acc, n = .lst acc ∧ Inv ws.length acc k) := fun B F0 ta sg H Q e q =>
  h B F0 ta sg H _ e fun J ta' H1 hta e1 hgo hst => fun Dl hD => by
    -- the word: the list so far is the last cell
    let P : Nat → Hp → Prop := fun i H => ∃ acc k, Inv i acc k ∧ acc.length ≤ i ∧ En K B F0 ro (k ++ [(Dl, .lst acc)]) ta' sg H
    have p0 : P 0 (upd H1 Dl (.lst [])) := by
      obtain ⟨F, g, e1⟩ := e1
      exact ⟨[], k1, h0, Nat.le_refl _, F, g, e1.cell (o := .lst []) hD (n := .lst []) ⟨[], upd_same, rfl⟩⟩
    refine ⟨fun i m H => m = ws.length - i ∧ i ≤ ws.length ∧ P i H, ⟨ws.length, by simp, Nat.zero_le _, p0⟩, ?_⟩
    rintro i m H2 ⟨rfl, hi, acc, k, inv, hlen, e2⟩
    by_cases hlt : i < ws.length
    · have hw := List.getElem?_eq_getElem hlt
      obtain ⟨g1, g2⟩ := hgo i ws[i] ro (k ++ [(Dl, .lst acc)]) ta' sg H2 hw ((hC i acc k inv).2 _) (fun p hp => hp) e2
      refine .inr ⟨g1, P (i + 1), fun H' p => ⟨ws.length - (i + 1), by omega, rfl, hlt, p⟩, fun x H3 y => ?_⟩
      have e3 := g2 x H3 y
      refine ⟨wipe_set sg vs hj x, ?_⟩
      -- within the block
      have e4 : En K B F0 ((wipeR ro vs).set j (some ws[i])) (k ++ [(Dl, .lst acc)]) ta' ((wipe sg vs).set j (some x)) H3 := by
        obtain ⟨F, g, e3⟩ := e3
        exact ⟨F, g, ((wipe_en (vs := vs) e3).set (e3.tm _ List.mem_cons_self) j).held fun p hp => List.mem_cons_of_mem _ hp⟩
      -- and back out of it
      have out : ∀ {k : Cells} {ta2 : List (V × W)} {H : Hp}, (∃ F, Gr B F0 F ∧ EnF K B F ((wipeR ro vs).set j (some ws[i])) k ta2 ((wipe sg vs).set j (some x)) H ∧ ∀ (a : Nat) w, ro[a]? = some (some w) → ∃ v, sg[a]? = some (some v) ∧ WOk K B F v w) → En K B F0 ro k ta2 sg H := fun ⟨F, g, q, hs⟩ => ⟨F, g, q.frame (by obtain ⟨_, _, e0⟩ := e; exact e0.ln) hs⟩
      obtain ⟨F3, gF3, eF3⟩ := e3
      have slots : ∀ {F : Hp}, Gr B F3 F → ∀ (a : Nat) w, ro[a]? = some (some w) → ∃ v, sg[a]? = some (some v) ∧ WOk K B F v w := fun {F} g a w ha => by
        obtain ⟨v, h1, h2⟩ := eF3.sl a w ha
        exact ⟨v, h1, wok_gr eF3.nz g h2⟩
      have e4' : En K B F3 ((wipeR ro vs).set j (some ws[i])) (k ++ [(Dl, .lst acc)]) ta' ((wipe sg vs).set j (some x)) H3 :=
        ⟨F3, Gr.refl _ _, ((wipe_en (vs := vs) eF3).set (eF3.tm _ List.mem_cons_self) j).held fun p hp => List.mem_cons_of_mem _ hp⟩
      rcases hs i ws[i] acc k hw inv with ⟨k2, t1, inv2⟩ | ⟨k2, t1, t2⟩
      · refine t1.fr [(Dl, .lst acc)] B F3 ta' _ H3 _ e4' fun H4 ⟨F4, g4, e5⟩ => ?_
        exact ⟨acc, k2, inv2, Nat.le_succ_of_le hlen, out ⟨F4, gF3.trans g4, e5, slots g4⟩⟩
      · refine t1.fr [(Dl, .lst acc)] B F3 ta' _ H3 _ e4' fun H4 e5 => ?_
        refine (t2.fr [(Dl, .lst acc)] fun y k ⟨d, hy, _⟩ => ⟨d, hy⟩) B F3 ta' _ H4 _ e5 fun y kk v H5 ⟨k3, ⟨d, ey, inv2⟩, ek⟩ ⟨F5, g5, e6⟩ => ?_
        subst ey ek
        have hx : (k3 ++ [(Dl, Nd.lst acc)])[k3.length]? = some (Dl, Nd.lst acc) := by simp
        obtain ⟨xs, h1, h2⟩ := e6.rd_lst hx
        have hv := e6.tm _ List.mem_cons_self
        have e7 := e6.write (o := .lst (xs ++ [v])) (n' := .lst (acc ++ [d])) hx ⟨_, upd_same, rpl_app h2 ⟨v, [], rfl, hv, rfl⟩⟩
        have hset : (k3 ++ [(Dl, Nd.lst acc)]).set k3.length (Dl, Nd.lst (acc ++ [d])) = k3 ++ [(Dl, Nd.lst (acc ++ [d]))] := by
          rw [List.set_append_right _ _ (Nat.le_refl _)]
          simp
        rw [hset] at e7
        refine ⟨xs, h1, by rw [rpl_len h2]; exact Nat.lt_of_le_of_lt (Nat.le_trans hlen (Nat.le_trans hi hn)) (by decide), acc ++ [d], k3, inv2, by rw [List.length_append]; exact Nat.succ_le_succ hlen, ?_⟩
        exact out ⟨F5, gF3.trans g5, e7.held fun p hp => List.mem_cons_of_mem _ hp, slots g5⟩
    · have ei : i = ws.length := by omega
      subst ei
      refine .inl ⟨hst _ ro (k ++ [(Dl, .lst acc)]) ta' sg H2 (Nat.le_refl _) ((hC _ acc k inv).2 _) (fun p hp => hp) e2, ?_⟩
      exact q _ _ Dl H2 ⟨acc, rfl, inv⟩ (e2.held hta)
theorem evr_ifT {K : PySem.W.Frag} {ro : Ro} {ka k1 : Cells} {te tf : TE} {tt : TT} {P : W → Cells → Prop} (h : EvT K tt ro ka true k1) (h1 : EvR K te ro k1 P) : EvR K (tIf tt te tf) ro ka P := fun B F0 ta sg H Q e q => h B F0 ta sg H _ e fun H1 e1 => h1 B F0 ta sg H1 Q e1 q
theorem evr_ifF {K : PySem.W.Frag} {ro : Ro} {ka k1 : Cells} {te tf : TE} {tt : TT} {P : W → Cells → Prop} (h : EvT K tt ro ka false k1) (h1 : EvR K tf ro k1 P) : EvR K (tIf tt te tf) ro ka P := fun B F0 ta sg H Q e q => h B F0 ta sg H _ e fun H1 e1 => h1 B F0 ta sg H1 Q e1 q
/-- the wish for a row and a taker -/
def duB : List D → List D
  | [] => []
  | e :: _ => [.str "bad", e]
theorem find_filt {α : Type} {p : α → Bool} : ∀ {xs : List α}, xs.find? p = (xs.filter p).head?
  | [] => rfl
  | x :: xs => by
    cases h : p x with
    | true => rw [List.find?_cons_of_pos h, List.filter_cons_of_pos h]; rfl
    | false => rw [List.find?_cons_of_neg (by rw [h]; decide), List.filter_cons_of_neg (by rw [h]; decide)]; exact find_filt
/-- what is due by the row -/
theorem ap_due {ds : List D} (k : Nat) : rfR k (apR ds) = if ds = [] ∧ k ≠ 2 then [.str "empty"] else if ds ≠ [] ∧ (ds.filter fun d => !isNmD d) = [] ∧ (k = 4 ∨ k = 6) then [.str "bad", .str "A"] else duB (ds.filter fun d => !isNmD d) := by
  cases ds with
  | nil =>
    show (if k = 2 then [] else _) = _
    by_cases h : k = 2
    · rw [if_pos h, if_neg (fun z => z.2 h), if_neg (fun z => z.1 rfl)]; rfl
    · rw [if_neg h, if_pos ⟨rfl, h⟩]
  | cons d r =>
    rw [if_neg (fun z => by cases z.1)]
    have ff := find_filt (p := fun d => !isNmD d) (xs := d :: r)
    cases hf : (d :: r).find? (fun d => !isNmD d) with
    | none =>
      rw [hf] at ff
      have e0 : (d :: r).filter (fun d => !isNmD d) = [] := List.head?_eq_none_iff.mp ff.symm
      rw [ap_none2 hf, e0]
      show (if k = 4 ∨ k = 6 then _ else _) = _
      by_cases h : k = 4 ∨ k = 6
      · rw [if_pos h, if_pos ⟨List.cons_ne_nil _ _, rfl, h⟩]
      · rw [if_neg h, if_neg (fun z => h z.2.2)]; rfl
    | some e =>
      rw [hf] at ff
      obtain ⟨q, eq⟩ : ∃ q, (d :: r).filter (fun d => !isNmD d) = e :: q := by
        cases hq : (d :: r).filter (fun d => !isNmD d) with
        | nil => rw [hq] at ff; cases ff
        | cons x q => rw [hq] at ff; cases ff; exact ⟨q, rfl⟩
      rw [ap_some2 hf, eq, if_neg (fun z => by cases z.2.1)]
      rfl
theorem nil_eqD (ds : List D) : eqD (.lst ds) (.lst []) = decide (ds = []) := by cases ds <;> rfl
theorem pl_bws {ds : List D} (h : ∀ d ∈ ds, bwOk d) (n : Nat) : pl (n + 3) (.lst ds) = true := List.all_eq_true.mpr fun d hd => (bw_refl (h d hd)).2 n
theorem eqL_refl {ds : List D} (h : ∀ d ∈ ds, eqD d d = true) : eqL ds ds = true := by
  induction ds with
  | nil => rfl
  | cons d r ih => show (eqD d d && eqL r r) = true; rw [h d List.mem_cons_self, ih fun e he => h e (List.mem_cons_of_mem _ he)]; rfl
theorem bws_refl {ds : List D} (h : ∀ d ∈ ds, bwOk d) : eqD (.lst ds) (.lst ds) = true := eqL_refl fun d hd => (bw_refl (h d hd)).1
theorem due_ok {ds : List D} (h : ∀ d ∈ ds, bwOk d) (k : Nat) : ∀ d ∈ rfR k (apR ds), bwOk d := by
  have st : ∀ s : Str, s.length ≤ 20 → bwOk (.str s) := fun s h => h
  rw [ap_due]
  intro d hd
  split at hd
  · rw [List.mem_singleton.mp hd]; exact st _ (by decide)
  · split at hd
    · rcases List.mem_cons.mp hd with rfl | hd
      · exact st _ (by decide)
      · rw [List.mem_singleton.mp hd]; exact st _ (by decide)
    · cases hb : ds.filter fun d => !isNmD d with
      | nil => rw [hb] at hd; cases hd
      | cons e q =>
        rw [hb] at hd
        rcases List.mem_cons.mp hd with rfl | hd
        · exact st _ (by decide)
        · rw [List.mem_singleton.mp hd]
          exact h e (List.mem_filter.mp (by rw [hb]; exact List.mem_cons_self : e ∈ ds.filter fun d => !isNmD d)).1
theorem ws_ok {d : D} (h : bwOk d) : eqD (wsD d) (wsD d) = true ∧ pl 60 (wsD d) = true := by
  unfold wsD
  split
  · exact ⟨rfl, rfl⟩
  · have h2 : ∀ e ∈ [D.str "bad", d], bwOk e := fun e he => by
      rcases List.mem_cons.mp he with rfl | he
      · exact (show (3 : Nat) ≤ 20 by decide)
      · rw [List.mem_singleton.mp he]; exact h
    exact ⟨bws_refl h2, pl_bws h2 57⟩
def ct_law (K : PySem.W.Frag) : Ct := Ct1 fun a ka out => ∃ ns, Scr K a ns ∧ ka = [] ∧ out = Rt (.bl true) []
section
variable {P : Program} {w : World} {K : PySem.W.Frag} {mg : Str → Option Value} {base : Heap}
theorem ok_law {fd : FuncData} (T : Tx K mg) (F_law_cell : Fn P w K mg base 4 (He.ga K "_law_cell") ["_law_script", "_law_k"] (ct_law_cell K)) (F_law_pool : Fn P w K mg base 4 (He.ga K "_law_pool") ["_law_cell_here"] (ct_law_pool K)) (F_law_take : Fn P w K mg base 4 (He.ga K "_law_take") ["_law_pool_here", "_law_many"] (ct_law_take K)) (F_law_names : Fn P w K mg base 6 (He.ga K "_law_names") ["_law_pool_here", "_law_many"] (ct_law_names K)) (F_law_spoiled : Fn P w K mg base 6 (He.ga K "_law_spoiled") ["_law_pool_here", "_law_word"] (ct_law_spoiled K)) (F_law_refused : Fn P w K mg base 30 (He.ga K "_law_refused") ["_law_words", "_law_kind"] (ct_law_refused K)) (F_law_added : Fn P w K mg base 8 (He.ga K "_law_added") ["_law_word"] (ct_law_added K)) (F_law_is_name : Fn P w K mg base 4 (He.ga K "_law_is_name") ["_law_word"] (ct_law_is_name K)) (F : FunD K "law" "law" (defArgs s_law) (defBody s_law) (defScope s_law) [] [] (He.ga K "law") fd) : FnOk P w K mg base (L2.CX P w) 32 (He.ga K "law") fd ["_law_script"] (spC K (ct_law K)) := by
  refine fn_okF F sc_law (fun _ _ _ _ _ _ us hl => match us, hl with | [_], _ => rfl) ct1_len (fun cdv A outer s H E hr => ⟨_, (pss_cons (ps_for (passes_of rfl) rfl (pi_range1 rfl T.n_range (pa_cons pe_int pa_nil)) (pg_name (i := 1) sc_law.nd rfl (by first | exact Or.inl rfl | exact Or.inr rfl)) (pss_cons (ps_set (i := 2) sc_law.nd rfl (by first | exact Or.inl rfl | exact Or.inr rfl) (pe_call (F_law_pool.up (by decide)).ok hr rfl T.g_law_pool.1 T.g_law_pool.2 (F_law_pool.up (by decide)).bn .nil (pass_own rfl rfl rfl rfl) (pa_cons (pe_op op_addU (pe_call (F_law_cell.up (by decide)).ok hr rfl T.g_law_cell.1 T.g_law_cell.2 (F_law_cell.up (by decide)).bn .nil (pass_own rfl rfl rfl rfl) (pa_cons (pv 0) (pa_cons (pv 1) pa_nil))) (pv 1)) pa_nil)))
      (pss_cons (ps_set (i := 3) sc_law.nd rfl (by first | exact Or.inl rfl | exact Or.inr rfl) (pe_slice sl_U (pe_call (F_law_names.up (by decide)).ok hr rfl T.g_law_names.1 T.g_law_names.2 (F_law_names.up (by decide)).bn .nil (pass_own rfl rfl rfl rfl) (pa_cons (pv 2) (pa_cons pe_int pa_nil))) po_none (po_some (pe_call (F_law_take.up (by decide)).ok hr rfl T.g_law_take.1 T.g_law_take.2 (F_law_take.up (by decide)).bn .nil (pass_own rfl rfl rfl rfl) (pa_cons (pv 2) (pa_cons pe_int pa_nil))))))
      (pss_cons (ps_setLc (i := 3) (te := (tIf (tTest (tOp (rEqP K false) (tCall (spC K (ct_law_take K)) [] (fun _ _ _ => False) (tCons (tVar 2) (tCons (tC (.int 3)) tNil))) (tC (.int 0)))) (tCall (spC K (ct_law_spoiled K)) [] (fun _ _ _ => False) (tCons (tVar 2) (tCons (tVar 4) tNil))) (tVar 4))) (tt := tYes) (own := [("_law_word", 4)]) rfl sc_law.nd rfl rfl rfl (pi_seq (pv 3)) (blk_ok ["_law_script", "_law_k", "_law_pool_here", "_law_words", "_law_word", "_law_bad", "_law_due", "_law_kind", "_law_wished"] (defScope s_law) rfl rfl (by decide +kernel)) (fun _ _ _ _ _ => (pg_name (i := 4) sc_law.nd rfl (by first | exact Or.inl rfl | exact Or.inr rfl))) (fun _ _ _ _ _ => pts_nil) (fun _ _ _ _ _ => (pe_ifExp (pt_cmpR (op_eqP (by have := (hr).units; exact this)) (pe_call (F_law_take.up (by decide)).ok hr rfl T.g_law_take.1 T.g_law_take.2 (F_law_take.up (by decide)).bn .nil passes_no (pa_cons (pv 2) (pa_cons pe_int pa_nil))) pe_int (nomark _)) (pe_call (F_law_spoiled.up (by decide)).ok hr rfl T.g_law_spoiled.1 T.g_law_spoiled.2 (F_law_spoiled.up (by decide)).bn .nil passes_no (pa_cons (pv 2) (pa_cons (pv 4) pa_nil))) (pv 4))))
      (pss_cons (ps_setLc (i := 5) (te := (tVar 4)) (tt := (tNot (tB (tCall (spC K (ct_law_is_name K)) [] (fun _ _ _ => False) (tCons (tVar 4) tNil))))) (own := [("_law_word", 4)]) rfl sc_law.nd rfl rfl rfl (pi_seq (pv 3)) (blk_ok ["_law_script", "_law_k", "_law_pool_here", "_law_words", "_law_word", "_law_bad", "_law_due", "_law_kind", "_law_wished"] (defScope s_law) rfl rfl (by decide +kernel)) (fun _ _ _ _ _ => (pg_name (i := 4) sc_law.nd rfl (by first | exact Or.inl rfl | exact Or.inr rfl))) (fun _ _ _ _ _ => (pts_one (pt_not (pt_val (pe_call (F_law_is_name.up (by decide)).ok hr rfl T.g_law_is_name.1 T.g_law_is_name.2 (F_law_is_name.up (by decide)).bn .nil passes_no (pa_cons (pv 4) pa_nil)))))) (fun _ _ _ _ _ => (pv 4)))
      (pss_cons (ps_set (i := 6) sc_law.nd rfl (by first | exact Or.inl rfl | exact Or.inr rfl) (pe_ifExp (pt_cmpR (op_neP (by have := (hr).units; exact this)) (pv 5) (pe_lst pa_nil) (nomark _)) (pe_lst (pa_cons pe_str (pa_cons (pe_ix ix_seq (pv 5) pe_int fun _ _ => rfl) pa_nil))) (pe_lst pa_nil)))
      (pss_cons (ps_for (passes_of rfl) rfl (pi_range1 rfl T.n_range (pa_cons pe_int pa_nil)) (pg_name (i := 7) sc_law.nd rfl (by first | exact Or.inl rfl | exact Or.inr rfl)) (pss_cons (ps_set (i := 8) sc_law.nd rfl (by first | exact Or.inl rfl | exact Or.inr rfl) (pv 6))
      (pss_cons (ps_if (PW.pt (pw_and (pt_cmpR (op_neP (by have := (hr).units; exact this)) (pv 3) (pe_lst pa_nil) (nomark _)) (pw_and (pt_cmpR (op_eqP (by have := (hr).units; exact this)) (pv 5) (pe_lst pa_nil) (nomark _)) (pw_and1 (pt_cmpR op_inU (pv 7) (pe_tup (pa_cons pe_int (pa_cons pe_int pa_nil))) (by with_unfolding_all rfl))))))
      (pss_one (ps_set (i := 8) sc_law.nd rfl (by first | exact Or.inl rfl | exact Or.inr rfl) (pe_lst (pa_cons pe_str (pa_cons pe_str pa_nil)))))
      pss_nil)
      (pss_cons (ps_if (PW.pt (pw_and (pt_cmpR (op_eqP (by have := (hr).units; exact this)) (pv 3) (pe_lst pa_nil) (nomark _)) (pw_and1 (pt_cmpR (op_neP (by have := (hr).units; exact this)) (pv 7) pe_int (nomark _)))))
      (pss_one (ps_set (i := 8) sc_law.nd rfl (by first | exact Or.inl rfl | exact Or.inr rfl) (pe_lst (pa_cons pe_str pa_nil))))
      pss_nil)
      (pss_one (ps_if (pt_cmpR (op_neP (by have := (hr).units; exact this)) (pe_call (F_law_refused.up (by decide)).ok hr rfl T.g_law_refused.1 T.g_law_refused.2 (F_law_refused.up (by decide)).bn .nil (pass_own rfl rfl rfl rfl) (pa_cons (pv 3) (pa_cons (pv 7) pa_nil))) (pv 8) (nomark _))
      (pss_one (ps_ret pe_bl))
      pss_nil))))))
      (pss_one (ps_for (passes_of rfl) rfl (pi_seq (pv 3)) (pg_name (i := 4) sc_law.nd rfl (by first | exact Or.inl rfl | exact Or.inr rfl)) (pss_cons (ps_set (i := 8) sc_law.nd rfl (by first | exact Or.inl rfl | exact Or.inr rfl) pe_bl)
      (pss_cons (ps_if (pt_not (pt_val (pe_call (F_law_is_name.up (by decide)).ok hr rfl T.g_law_is_name.1 T.g_law_is_name.2 (F_law_is_name.up (by decide)).bn .nil (pass_own rfl rfl rfl rfl) (pa_cons (pv 4) pa_nil))))
      (pss_one (ps_set (i := 8) sc_law.nd rfl (by first | exact Or.inl rfl | exact Or.inr rfl) (pe_lst (pa_cons pe_str (pa_cons (pv 4) pa_nil)))))
      pss_nil)
      (pss_one (ps_if (pt_cmpR (op_neP (by have := (hr).units; exact this)) (pe_call (F_law_added.up (by decide)).ok hr rfl T.g_law_added.1 T.g_law_added.2 (F_law_added.up (by decide)).bn .nil (pass_own rfl rfl rfl rfl) (pa_cons (pv 4) pa_nil)) (pe_lst (pa_cons (pv 8) (pa_cons (pv 8) pa_nil))) (nomark _))
      (pss_one (ps_ret pe_bl))
      pss_nil)))))))))))))
      (pss_one (ps_ret pe_bl))), fun ws ka out B F0 Q hC hR hX => ?_⟩)
  obtain ⟨s0, rfl, zs, hs0, rfl, rfl⟩ := hC
  refine q_forn (ei_range1 (ea1 ev_int) (by decide) (by decide)) (fun i ro ka => ∃ (v1 v2 v3 v4 v5 v6 v7 v8 : Option W), ro = [some s0, v1, v2, v3, v4, v5, v6, v7, v8] ∧ ka = []) ⟨_, _, _, _, _, _, _, _, rfl, rfl⟩ (fun i ro ka _ => trivial) (fun i w' ro2 ka2 ta' hw ⟨v1, v2, v3, v4, v5, v6, v7, v8, e1, e2⟩ => ?_) (fun ro2 ka2 ta' ⟨v1, v2, v3, v4, v5, v6, v7, v8, e1, e2⟩ _ => ?_)
  rotate_left
  · subst e1 e2
    exact g_ret hR ev_bl ⟨rfl, rfl⟩
  subst e1 e2
  have hi : i < 5 := by
    have := (List.getElem?_eq_some_iff.mp hw).1
    rwa [List.length_map, List.length_range] at this
  have hw2 : w' = .val (.int (i : Int)) := by
    rw [List.getElem?_map, List.getElem?_range (n := Int.toNat 5) hi] at hw
    cases hw
    rfl
  subst hw2
  refine q_asgN (evn_callP (ea1 (ev_addI (ev_callP (ea2 (ev_var rfl) (ev_var rfl)) ⟨_, _, rfl, zs, i, hs0, rfl, rfl, rfl⟩) (ev_var rfl))) ⟨_, rfl, _, rfl, rfl, rfl⟩) (fun a => ?_)
  generalize zs.getD i 0 + (i : Int) = z2
  have hpz := plOf_ok z2
  generalize plOf z2 = pz at *
  refine q_asgR (P := fun w k => ∃ (ws : List Str) (p' : Pl), w = .val (.lst (stD ws)) ∧ k = [(a, .lst p'.ds)] ∧ p'.Ok 31 ∧ ws.length ≤ 3 ∧ ∀ s ∈ ws, isNm s = true) (evr_slL (evr_call (k1 := [(a, .lst pz.ds)]) [] (ea2 (ev_var rfl) ev_int) ⟨_, _, rfl, a, pz, 0, 3, rfl, rfl, rfl, hpz, by decide, by decide, by decide, by decide, rfl⟩ (fun o k ⟨ss, p', h, _⟩ => ⟨_, h⟩)) ?sl) (fun w k ⟨ws, p1, e1, e2, hp1, hwl, hwn⟩ => ?_)
  case sl =>
    rintro w k ⟨d, k2, ⟨ss, p', e, e2, hp', hl, hn, hnd⟩, rfl, rfl⟩
    cases e
    subst e2
    have t4 := tk_lt p' (m := 4) (by decide)
    have o4 := tk_ok hp' (m := 4) (by decide)
    refine ⟨stD ss, none, some (tk p' 4).1, _, _, rfl, eo_none, eo_some (ev_take (kr := []) (ev_var rfl) ev_int (hp'.up (by omega)) (by decide) (by decide)), ss.take (tk p' 4).1.toNat, (tk p' 4).2, ?_, rfl, o4.up (by omega), by rw [List.length_take]; omega, fun s hs => hn s (List.mem_of_mem_take hs)⟩
    rw [cut_to' (by omega)]
    unfold stD
    rw [List.map_take]
  subst e1 e2
  refine q_asgNR (evr_lcR (ei_strs (ev_var rfl)) (by decide) (by rw [List.length_map]; omega) (fun i acc k => ∃ p' : Pl, k = [(a, .lst p'.ds)] ∧ p'.Ok (31 + 4 * (i : Nat)) ∧ acc.length = i ∧ ∀ d ∈ acc, bwOk d) ⟨p1, rfl, hp1.up (by omega), rfl, fun _ h => nomatch h⟩ (fun i acc k _ => ⟨trivial, fun _ => trivial⟩) (fun j w acc k hw ⟨p', e1, hp', hl, hb⟩ => ?el)) (fun n k c ⟨acc, e0, p2, e1, hp2, hl, hb⟩ => ?_)
  case el =>
    subst e1
    rw [List.getElem?_map] at hw
    obtain ⟨s, hs, rfl⟩ := Option.map_eq_some_iff.mp hw
    have hsm := hwn s (List.mem_of_getElem? hs)
    have hj : j < ws.length := (List.getElem?_eq_some_iff.mp hs).1
    have t3 := tk_lt p' (m := 3) (by decide)
    have o3 := tk_ok hp' (m := 3) (by decide)
    refine .inr ⟨_, et_yes, ?_⟩
    have tst := et_test (K := K) (ev_eqI (j := 0) (ev_take (kr := []) (E := fun _ _ _ => False) (ro := ((wipeR [some s0, some (.val (.int (i : Int))), some (.val (.adr a)), some (.val (.lst (stD ws))), v4, v5, v6, v7, v8] [4]).set 4 (some (.val (.str s))))) (te := tVar 2) (tf := tC (.int 3)) (m := 3) (ev_var rfl) ev_int (hp'.up (by omega)) (by decide) (by decide)) ev_int)
    by_cases hz : (tk p' 3).1 = 0
    · rw [hz] at tst
      refine evr_ifT tst ((evr_call (k1 := [(a, .lst (tk p' 3).2.ds)]) [] (ea2 (ev_var rfl) (ev_var rfl)) ⟨_, _, rfl, a, (tk p' 3).2, 31 + 4 * (j : Nat) + 1, s, rfl, rfl, rfl, o3, by omega, by omega, hsm, rfl⟩ (fun o k ⟨d, p', h, _⟩ => ⟨_, h⟩)).imp ?_)
      rintro w k ⟨d, k2, ⟨d2, p3, e, e2, hp3, hd⟩, rfl, rfl⟩
      cases e
      subst e2
      refine ⟨d, rfl, p3, rfl, hp3.up (by push_cast; omega), by rw [List.length_append, hl]; rfl, fun e he => ?_⟩
      rcases List.mem_append.mp he with he | he
      · exact hb e he
      · rw [List.mem_singleton.mp he]; exact hd
    · have ef : ((tk p' 3).1 == 0) = false := beq_eq_false_iff_ne.mpr hz
      rw [ef] at tst
      refine evr_ifF tst ((ev_var (w := .val (.str s)) rfl).toR.imp ?_)
      rintro w k ⟨rfl, rfl⟩
      refine ⟨.str s, rfl, _, rfl, o3.up (by push_cast; omega), by rw [List.length_append, hl]; rfl, fun e he => ?_⟩
      rcases List.mem_append.mp he with he | he
      · exact hb e he
      · rw [List.mem_singleton.mp he]; exact Nat.le_trans (isNm_len hsm) (by decide)
  subst e0 e1
  refine Gp.frz (i := 3) (j := 1) rfl rfl (Gp.less (k1 := []) ?_ (List.nil_sublist _))
  have hl3 : acc.length ≤ 3 := by rw [hl, List.length_map]; exact hwl
  generalize acc = ds at *
  have ndE : ∀ {ro : Ro} {te : TE} {es : List D}, EvD K te ro [] (.val (.lst es)) [] → (∀ d ∈ es, bwOk d) → EvT K (tTest (tOp (rEqP K true) te (tLst tNil))) ro [] (!decide (es = [])) [] := fun h hb => (et_test (ev_ne (e := .lst []) h (evn_lst (ds := []) ea_nil (by decide)).lst .v .v (pl_bws hb 58) rfl)).to (by rw [nil_eqD])
  have eqE : ∀ {ro : Ro} {te : TE} {es : List D}, EvD K te ro [] (.val (.lst es)) [] → (∀ d ∈ es, bwOk d) → EvT K (tTest (tOp (rEqP K false) te (tLst tNil))) ro [] (decide (es = [])) [] := fun h hb => (et_test (ev_eq (e := .lst []) h (evn_lst (ds := []) ea_nil (by decide)).lst .v .v (pl_bws hb 58) rfl)).to (by rw [nil_eqD])
  have isn : ∀ {ro : Ro} {te : TE} {d : D} {E : XK}, EvD K te ro [] (.val d) [] → bwOk d → EvT K (tNot (tB (tCall (spC K (ct_law_is_name K)) [] E (tCons te tNil)))) ro [] (!isNmD d) [] := fun h hd => et_not (et_B (ev_callP (ea1 h) ⟨_, rfl, _, rfl, bw_nm hd, rfl, rfl⟩))
  have hB : ∀ d ∈ ds.filter (fun d => !isNmD d), bwOk d := fun d hd => hb d (List.mem_filter.mp hd).1
  refine q_asg (w := .val (.lst (ds.filter fun d => !isNmD d))) ((evn_filt (xs := ds) (g := W.val) (f := fun d => d) (p := fun d => !isNmD d) (EvI.ws (ei_seq (ev_var rfl) .vl) (List.map_congr_left fun _ _ => rfl)) (by decide) (by omega) ⟨trivial, fun _ => trivial⟩ (fun d hd => isn (ev_var rfl) (hb d hd)) (fun d hd _ => ev_var rfl)).lst.to (by rw [List.map_id'])) ?_
  refine q_asg (k1 := []) (w := .val (.lst (duB (ds.filter fun d => !isNmD d)))) ?due ?_
  case due =>
    have t := ndE (ro := [some s0, some (.val (.int (i : Int))), some (.val (.adr a)), some (.val (.lst ds)), v4, some (.val (.lst (ds.filter fun d => !isNmD d))), v6, v7, v8]) (te := tVar 5) (ev_var rfl) hB
    cases hB2 : ds.filter fun d => !isNmD d with
    | nil => rw [hB2] at t; exact ev_ifF t (evn_lst (ds := []) ea_nil (by decide)).lst
    | cons e r => rw [hB2] at t; exact ev_ifT t (evn_lst (ds := [.str "bad", e]) (ea2 ev_str (ev_ixV (ds := e :: r) (ev_var rfl) ev_int .vl at0)) (show 2 ≤ 100000 by decide)).lst
  have dok : ∀ j, ∀ d ∈ rfR j (apR ds), bwOk d := due_ok hb
  refine q_forn (ei_range1 (ea1 ev_int) (by decide) (by decide)) (fun j ro ka => ∃ (v4 v7 v8 : Option W), ro = [some s0, some (.val (.int (i : Int))), some (.val (.adr a)), some (.val (.lst ds)), v4, some (.val (.lst (ds.filter fun d => !isNmD d))), some (.val (.lst (duB (ds.filter fun d => !isNmD d)))), v7, v8] ∧ ka = []) ⟨_, _, _, rfl, rfl⟩ (fun _ _ _ _ => trivial) (fun j w ro2 ka2 ta2 hw ⟨v4, v7, v8, e1, e2⟩ => ?_) (fun ro2 ka2 ta2 ⟨v4, v7, v8, e1, e2⟩ hta0 => ?_)
  · subst e1 e2
    have hj : j < 8 := by
      have := (List.getElem?_eq_some_iff.mp hw).1
      rwa [List.length_map, List.length_range] at this
    have hw2 : w = .val (.int (j : Int)) := by
      rw [List.getElem?_map, List.getElem?_range (n := Int.toNat 8) hj] at hw
      cases hw
      rfl
    subst hw2
    have due := ap_due (ds := ds) j
    generalize hBB : (ds.filter fun d => !isNmD d) = Bs at *
    refine q_asg (k1 := []) (ev_var rfl) ?_
    refine q_whenI (b := decide (ds ≠ [] ∧ Bs = [] ∧ (j = 4 ∨ j = 6))) (fun ro ka => ro = [some s0, some (.val (.int (i : Int))), some (.val (.adr a)), some (.val (.lst ds)), v4, some (.val (.lst Bs)), some (.val (.lst (duB Bs))), some (.val (.int (j : Int))), some (.val (.lst (if ds ≠ [] ∧ Bs = [] ∧ (j = 4 ∨ j = 6) then [.str "bad", .str "A"] else duB Bs)))] ∧ ka = []) ((et_and (ndE (ev_var rfl) hb) (fun _ => et_and (eqE (ev_var rfl) hB) (fun _ => et_test (ev_inN (ns := [4, 6]) (n := j) (ev_var rfl) (ev_tup (ds := nmD [4, 6]) (ea2 ev_int ev_int) (Nat.le_of_ble_eq_true rfl)) .vt)))).to (by rw [Bool.eq_iff_iff]; simp)) (fun hq nx k => g_asg (w := .val (.lst [.str "bad", .str "A"])) (evn_lst (ds := [.str "bad", .str "A"]) (ea2 ev_str ev_str) (show 2 ≤ 100000 by decide)).lst (k _ _ ⟨by rw [if_pos (of_decide_eq_true hq)]; try rfl, rfl⟩)) (fun hq => ⟨by rw [if_neg (of_decide_eq_false hq)]; try rfl, rfl⟩) (fun ro2 ka2 ⟨e1, e2⟩ => ?_)
    subst e1 e2
    generalize (if ds ≠ [] ∧ Bs = [] ∧ (j = 4 ∨ j = 6) then [D.str "bad", D.str "A"] else duB Bs) = w1 at *
    refine q_whenI (b := decide (ds = [] ∧ j ≠ 2)) (fun ro ka => ro = [some s0, some (.val (.int (i : Int))), some (.val (.adr a)), some (.val (.lst ds)), v4, some (.val (.lst Bs)), some (.val (.lst (duB Bs))), some (.val (.int (j : Int))), some (.val (.lst (if ds = [] ∧ j ≠ 2 then [.str "empty"] else w1)))] ∧ ka = []) ((et_and (eqE (ev_var rfl) hb) (fun _ => et_test (ev_ne (d := .int (j : Int)) (e := .int 2) (ev_var rfl) ev_int .v .v rfl rfl))).to ?tt) (fun hq nx k => g_asg (w := .val (.lst [.str "empty"])) (evn_lst (ds := [.str "empty"]) (ea1 ev_str) (show 1 ≤ 100000 by decide)).lst (k _ _ ⟨by rw [if_pos (of_decide_eq_true hq)]; try rfl, rfl⟩)) (fun hq => ⟨by rw [if_neg (of_decide_eq_false hq)]; try rfl, rfl⟩) (fun ro2 ka2 ⟨e1, e2⟩ => ?_)
    case tt =>
      have e : eqD (.int (j : Int)) (.int 2) = ((j : Int) == 2) := rfl
      rw [e, Bool.eq_iff_iff]
      simp
      omega
    subst e1 e2
    rw [← due]
    exact g_if (b := false) ((et_test (ev_ne (d := .lst (rfR j (apR ds))) (e := .lst (rfR j (apR ds))) (ev_callP (ea2 (ev_var rfl) (ev_var rfl)) ⟨_, _, rfl, ds, j, rfl, rfl, hl3, (fun d hd => bw_nm (hb d hd)), hj, rfl, rfl⟩) (ev_var rfl) .v .v (pl_bws (dok j) 58) (pl_bws (dok j) 58))).to (by rw [bws_refl (dok j)]; rfl)) (fun z => by cases z) (fun _ => g_next (g_jp ⟨_, _, _, rfl, rfl⟩))
  subst e1 e2
  refine g_forn (ws := ds.map W.val) (EvI.ws (ei_seq (ev_var rfl) .vl) (List.map_congr_left fun _ _ => rfl)) (fun j ro ka => ∃ (v4 v8 : Option W), ro = [some s0, some (.val (.int (i : Int))), some (.val (.adr a)), some (.val (.lst ds)), v4, some (.val (.lst (ds.filter fun d => !isNmD d))), some (.val (.lst (duB (ds.filter fun d => !isNmD d)))), v7, v8] ∧ ka = []) ⟨_, _, rfl, rfl⟩ (fun _ _ _ _ => trivial) (fun j w ro2 ka2 ta2 hw ⟨v4, v8, e1, e2⟩ => ?_) (fun ro2 ka2 ta2 ⟨v4, v8, e1, e2⟩ hta => ?_)
  · subst e1 e2
    rw [List.getElem?_map] at hw
    obtain ⟨d, hd, rfl⟩ := Option.map_eq_some_iff.mp hw
    have hbd := hb d (List.mem_of_getElem? hd)
    refine q_asg ev_bl ?_
    refine q_whenI (b := !isNmD d) (fun ro ka => ro = [some s0, some (.val (.int (i : Int))), some (.val (.adr a)), some (.val (.lst ds)), some (.val d), some (.val (.lst (ds.filter fun d => !isNmD d))), some (.val (.lst (duB (ds.filter fun d => !isNmD d)))), v7, some (.val (wsD d))] ∧ ka = []) (isn (ev_var rfl) hbd) (fun hq nx k => g_asg (w := .val (.lst [.str "bad", d])) (evn_lst (ds := [.str "bad", d]) (ea2 ev_str (ev_var rfl)) (show 2 ≤ 100000 by decide)).lst (k _ _ ⟨by rw [show wsD d = .lst [.str "bad", d] from if_neg (by rw [Bool.not_eq_true'] at hq; rw [hq]; decide)]; try rfl, rfl⟩)) (fun hq => ⟨by rw [show wsD d = .bl true from if_pos (by rwa [Bool.not_eq_false'] at hq)]; try rfl, rfl⟩) (fun ro2 ka2 ⟨e1, e2⟩ => ?_)
    subst e1 e2
    obtain ⟨r1, r2⟩ := ws_ok hbd
    have rr : ∀ x ∈ [wsD d, wsD d], eqD x x = true := fun x hx => by
      rcases List.mem_cons.mp hx with rfl | hx
      · exact r1
      · rw [List.mem_singleton.mp hx]; exact r1
    have pp : pl 61 (.lst [wsD d, wsD d]) = true := List.all_eq_true.mpr fun x hx => by
      rcases List.mem_cons.mp hx with rfl | hx
      · exact r2
      · rw [List.mem_singleton.mp hx]; exact r2
    exact g_if (b := false) ((et_test (ev_ne (d := .lst [wsD d, wsD d]) (e := .lst [wsD d, wsD d]) (ev_callP (ea1 (ev_var rfl)) ⟨_, rfl, d, rfl, hbd, rfl, rfl⟩) (evn_lst (ds := [wsD d, wsD d]) (ea2 (ev_var rfl) (ev_var rfl)) (show 2 ≤ 100000 by decide)).lst .v .v pp pp)).to (by rw [show eqD (.lst [wsD d, wsD d]) (.lst [wsD d, wsD d]) = true from eqL_refl rr]; rfl)) (fun z => by cases z) (fun _ => g_next (g_jp ⟨_, _, rfl, rfl⟩))
  · subst e1 e2
    exact g_jpH (fun p hp => hta p (hta0 p hp)) ⟨_, _, _, _, _, _, _, _, rfl, rfl⟩
end
theorem tx_of {K : PySem.W.Frag} {mg : Str → Option Value} {h : Heap} (X : K.In h) (G : h.Ns mainGlobals mg) (c : SaysY exs dfs K) : Tx K mg where
  v_LETTERS := (let ⟨t, e⟩ := He.str_ok X G (c.fact 0 (f := fStr "LETTERS" "abcdefghijklmnopqrstuvwxyz")); ⟨_, e, t, rfl⟩)
  n_len := He.free_ok X G (c.fact 1 (f := fFree "len"))
  v_LONGEST := (let ⟨t, e⟩ := He.int_ok X G (c.fact 2 (f := fInt "LONGEST" 8)); ⟨_, e, t, rfl⟩)
  n_isinstance := He.free_ok X G (c.fact 3 (f := fFree "isinstance"))
  n_str := He.free_ok X G (c.fact 4 (f := fFree "str"))
  n_all := He.free_ok X G (c.fact 5 (f := fFree "all"))
  v_DIGITS := (let ⟨t, e⟩ := He.str_ok X G (c.fact 6 (f := fStr "DIGITS" "0123456789")); ⟨_, e, t, rfl⟩)
  x0_EmptyWalk := He.exc_ok (c.fact 7 (f := fX0 "EmptyWalk"))
  g_EmptyWalk := ⟨He.glo_ok X G (He.ba (c.fact 8 (f := fGlo "EmptyWalk"))).1, (He.ba (c.fact 8 (f := fGlo "EmptyWalk"))).2⟩
  g_is_name := ⟨He.glo_ok X G (He.ba (c.fact 9 (f := fGlo "is_name"))).1, (He.ba (c.fact 9 (f := fGlo "is_name"))).2⟩
  g_BadName := ⟨He.glo_ok X G (He.ba (c.fact 10 (f := fGlo "BadName"))).1, (He.ba (c.fact 10 (f := fGlo "BadName"))).2⟩
  g_read_tree := ⟨He.glo_ok X G (He.ba (c.fact 11 (f := fGlo "read_tree"))).1, (He.ba (c.fact 11 (f := fGlo "read_tree"))).2⟩
  g_crossed := ⟨He.glo_ok X G (He.ba (c.fact 12 (f := fGlo "crossed"))).1, (He.ba (c.fact 12 (f := fGlo "crossed"))).2⟩
  mk_Machine := He.mkr_ok (c.fact 13 (f := fMkr "Machine"))
  g_Machine := ⟨He.glo_ok X G (He.ba (c.fact 14 (f := fGlo "Machine"))).1, (He.ba (c.fact 14 (f := fGlo "Machine"))).2⟩
  n_any := He.free_ok X G (c.fact 15 (f := fFree "any"))
  n_tuple := He.free_ok X G (c.fact 16 (f := fFree "tuple"))
  cl_Machine := He.cls_ok (c.fact 17 (f := fCls "Machine"))
  me_Machine_is_behind := He.meth_ok (c.fact 18 (f := fMeth "Machine" "is_behind"))
  me_Machine_takes := He.meth_ok (c.fact 19 (f := fMeth "Machine" "takes"))
  n_range := He.free_ok X G (c.fact 20 (f := fFree "range"))
  g_all_names := ⟨He.glo_ok X G (He.ba (c.fact 21 (f := fGlo "all_names"))).1, (He.ba (c.fact 21 (f := fGlo "all_names"))).2⟩
  me_Machine_started := He.meth_ok (c.fact 22 (f := fMeth "Machine" "started"))
  me_Machine_is_done := He.meth_ok (c.fact 23 (f := fMeth "Machine" "is_done"))
  me_Machine_after := He.meth_ok (c.fact 24 (f := fMeth "Machine" "after"))
  g_check_lanes := ⟨He.glo_ok X G (He.ba (c.fact 25 (f := fGlo "check_lanes"))).1, (He.ba (c.fact 25 (f := fGlo "check_lanes"))).2⟩
  mk_Pattern := He.mkr_ok (c.fact 26 (f := fMkr "Pattern"))
  g_Pattern := ⟨He.glo_ok X G (He.ba (c.fact 27 (f := fGlo "Pattern"))).1, (He.ba (c.fact 27 (f := fGlo "Pattern"))).2⟩
  g_word_pattern := ⟨He.glo_ok X G (He.ba (c.fact 28 (f := fGlo "word_pattern"))).1, (He.ba (c.fact 28 (f := fGlo "word_pattern"))).2⟩
  g_made_machine := ⟨He.glo_ok X G (He.ba (c.fact 29 (f := fGlo "made_machine"))).1, (He.ba (c.fact 29 (f := fGlo "made_machine"))).2⟩
  g_as_pattern := ⟨He.glo_ok X G (He.ba (c.fact 30 (f := fGlo "as_pattern"))).1, (He.ba (c.fact 30 (f := fGlo "as_pattern"))).2⟩
  g_machine_of := ⟨He.glo_ok X G (He.ba (c.fact 31 (f := fGlo "machine_of"))).1, (He.ba (c.fact 31 (f := fGlo "machine_of"))).2⟩
  g_least_parting := ⟨He.glo_ok X G (He.ba (c.fact 32 (f := fGlo "least_parting"))).1, (He.ba (c.fact 32 (f := fGlo "least_parting"))).2⟩
  n_list := He.free_ok X G (c.fact 33 (f := fFree "list"))
  t0_Net___init := t0_ok (c.fact 34 (f := fT0 ("Net", some "__init__") 0))
  g_NameTaken := ⟨He.glo_ok X G (He.ba (c.fact 35 (f := fGlo "NameTaken"))).1, (He.ba (c.fact 35 (f := fGlo "NameTaken"))).2⟩
  g_NoPost := ⟨He.glo_ok X G (He.ba (c.fact 36 (f := fGlo "NoPost"))).1, (He.ba (c.fact 36 (f := fGlo "NoPost"))).2⟩
  n_int := He.free_ok X G (c.fact 37 (f := fFree "int"))
  g_law_take := ⟨He.glo_ok X G (He.ba (c.fact 38 (f := fGlo "_law_take"))).1, (He.ba (c.fact 38 (f := fGlo "_law_take"))).2⟩
  g_walk_of := ⟨He.glo_ok X G (He.ba (c.fact 39 (f := fGlo "walk_of"))).1, (He.ba (c.fact 39 (f := fGlo "walk_of"))).2⟩
  g_none_of := ⟨He.glo_ok X G (He.ba (c.fact 40 (f := fGlo "none_of"))).1, (He.ba (c.fact 40 (f := fGlo "none_of"))).2⟩
  g_any_of := ⟨He.glo_ok X G (He.ba (c.fact 41 (f := fGlo "any_of"))).1, (He.ba (c.fact 41 (f := fGlo "any_of"))).2⟩
  xc_BadName := xcB_ok (c.fact 42 (f := fXc "BadName"))
  xn_BadName_name := He.noat_ok (c.fact 43 (f := fNoat "BadName" "name"))
  mk_Round := He.mkr_ok (c.fact 44 (f := fMkr "Round"))
  g_Round := ⟨He.glo_ok X G (He.ba (c.fact 45 (f := fGlo "Round"))).1, (He.ba (c.fact 45 (f := fGlo "Round"))).2⟩
  g_law_pattern := ⟨He.glo_ok X G (He.ba (c.fact 46 (f := fGlo "_law_pattern"))).1, (He.ba (c.fact 46 (f := fGlo "_law_pattern"))).2⟩
  g_within := ⟨He.glo_ok X G (He.ba (c.fact 47 (f := fGlo "within"))).1, (He.ba (c.fact 47 (f := fGlo "within"))).2⟩
  g_parting := ⟨He.glo_ok X G (He.ba (c.fact 48 (f := fGlo "parting"))).1, (He.ba (c.fact 48 (f := fGlo "parting"))).2⟩
  mk_Net := He.mkr_ok (c.fact 49 (f := fMkr "Net"))
  g_Net := ⟨He.glo_ok X G (He.ba (c.fact 50 (f := fGlo "Net"))).1, (He.ba (c.fact 50 (f := fGlo "Net"))).2⟩
  cl_Net := He.cls_ok (c.fact 51 (f := fCls "Net"))
  me_Net_post := He.meth_ok (c.fact 52 (f := fMeth "Net" "post"))
  pr_Net_posts := prop_ok (c.fact 53 (f := fProp "Net" "posts"))
  me_Net_lane := He.meth_ok (c.fact 54 (f := fMeth "Net" "lane"))
  pr_Net_lanes := prop_ok (c.fact 55 (f := fProp "Net" "lanes"))
  g_law_pool := ⟨He.glo_ok X G (He.ba (c.fact 56 (f := fGlo "_law_pool"))).1, (He.ba (c.fact 56 (f := fGlo "_law_pool"))).2⟩
  g_law_cell := ⟨He.glo_ok X G (He.ba (c.fact 57 (f := fGlo "_law_cell"))).1, (He.ba (c.fact 57 (f := fGlo "_law_cell"))).2⟩
  g_law_names := ⟨He.glo_ok X G (He.ba (c.fact 58 (f := fGlo "_law_names"))).1, (He.ba (c.fact 58 (f := fGlo "_law_names"))).2⟩
  g_law_spoiled := ⟨He.glo_ok X G (He.ba (c.fact 59 (f := fGlo "_law_spoiled"))).1, (He.ba (c.fact 59 (f := fGlo "_law_spoiled"))).2⟩
  g_law_is_name := ⟨He.glo_ok X G (He.ba (c.fact 60 (f := fGlo "_law_is_name"))).1, (He.ba (c.fact 60 (f := fGlo "_law_is_name"))).2⟩
  g_law_refused := ⟨He.glo_ok X G (He.ba (c.fact 61 (f := fGlo "_law_refused"))).1, (He.ba (c.fact 61 (f := fGlo "_law_refused"))).2⟩
  g_law_added := ⟨He.glo_ok X G (He.ba (c.fact 62 (f := fGlo "_law_added"))).1, (He.ba (c.fact 62 (f := fGlo "_law_added"))).2⟩
  xi_BadName := xi_ok (c.fact 63 (f := fXi "BadName"))
  xc_NameTaken := xcB_ok (c.fact 64 (f := fXc "NameTaken"))
  xi_NameTaken := xi_ok (c.fact 65 (f := fXi "NameTaken"))
  xn_NameTaken_name := He.noat_ok (c.fact 66 (f := fNoat "NameTaken" "name"))
  xc_NoPost := xcB_ok (c.fact 67 (f := fXc "NoPost"))
  xi_NoPost := xi_ok (c.fact 68 (f := fXi "NoPost"))
  xn_NoPost_name := He.noat_ok (c.fact 69 (f := fNoat "NoPost" "name"))
  g_law := ⟨He.glo_ok X G (He.ba (c.fact 70 (f := fGlo "law"))).1, (He.ba (c.fact 70 (f := fGlo "law"))).2⟩
  kt_NoneType_str := kit_ok (c.fact 71 (f := fKit "NoneType" "str" false))
  kt_bool_str := kit_ok (c.fact 72 (f := fKit "bool" "str" false))
  kt_int_str := kit_ok (c.fact 73 (f := fKit "int" "str" false))
  kt_list_str := kit_ok (c.fact 74 (f := fKit "list" "str" false))
  kt_tuple_str := kit_ok (c.fact 75 (f := fKit "tuple" "str" false))
  kt_str_str := kit_ok (c.fact 76 (f := fKit "str" "str" true))
  na_Machine_atoms := He.noat_ok (c.fact 77 (f := fNoat "Machine" "atoms"))
  na_Machine_firsts := He.noat_ok (c.fact 78 (f := fNoat "Machine" "firsts"))
  na_Machine_lasts := He.noat_ok (c.fact 79 (f := fNoat "Machine" "lasts"))
  na_Machine_pairs := He.noat_ok (c.fact 80 (f := fNoat "Machine" "pairs"))
  na_Machine_is_optional := He.noat_ok (c.fact 81 (f := fNoat "Machine" "is_optional"))
  np_0 := noP_ok (c.fact 82 (f := fNoP))
  cl_Pattern := He.cls_ok (c.fact 83 (f := fCls "Pattern"))
  na_Pattern_tree := He.noat_ok (c.fact 84 (f := fNoat "Pattern" "tree"))
  ci_Pattern := clsI_ok (c.fact 85 (f := fClsI "Pattern"))
  ko_Pattern_Pattern := kitO_ok (c.fact 86 (f := fKitO "Pattern" "Pattern" true))
  kc_list_Pattern := kitC_ok (c.fact 87 (f := fKitC "list" "Pattern" false))
  kc_tuple_Pattern := kitC_ok (c.fact 88 (f := fKitC "tuple" "Pattern" false))
  cl_Round := He.cls_ok (c.fact 89 (f := fCls "Round"))
  na_Round_line := He.noat_ok (c.fact 90 (f := fNoat "Round" "line"))
  na_Net_order := He.noat_ok (c.fact 91 (f := fNoat "Net" "order"))
  na_Net_ends_by_lane := He.noat_ok (c.fact 92 (f := fNoat "Net" "ends_by_lane"))
  ex_BadName_BadName := He.exm_ok (c.fact 93 (f := fExm "BadName" "BadName" true))
  ex_EmptyWalk_BadName := He.exm_ok (c.fact 94 (f := fExm "EmptyWalk" "BadName" false))
  ex_EmptyWalk_EmptyWalk := He.exm_ok (c.fact 95 (f := fExm "EmptyWalk" "EmptyWalk" true))
  d_is_name := c.def_ 0
  d_check_lanes := c.def_ 1
  d_crossed := c.def_ 2
  d_read_tree := c.def_ 3
  d_Machine___init := c.def_ 4
  d_made_machine := c.def_ 5
  d_Machine_takes := c.def_ 6
  d_Machine_is_behind := c.def_ 7
  d_Machine_after := c.def_ 8
  d_Machine_started := c.def_ 9
  d_Machine_is_done := c.def_ 10
  d_all_names := c.def_ 11
  d_least_parting := c.def_ 12
  d_Pattern___init := c.def_ 13
  d_any_of := c.def_ 14
  d_none_of := c.def_ 15
  d_word_pattern := c.def_ 16
  d_walk_of := c.def_ 17
  d_as_pattern := c.def_ 18
  d_machine_of := c.def_ 19
  d_within := c.def_ 20
  d_parting := c.def_ 21
  d_Round___init := c.def_ 22
  d_Net___init := c.def_ 23
  d_Net_posts := c.def_ 24
  d_Net_lanes := c.def_ 25
  d_Net_post := c.def_ 26
  d_Net_lane := c.def_ 27
  d_law_cell := c.def_ 28
  d_law_pool := c.def_ 29
  d_law_take := c.def_ 30
  d_law_names := c.def_ 31
  d_law_spoiled := c.def_ 32
  d_law_pattern := c.def_ 33
  d_law_refused := c.def_ 34
  d_law_added := c.def_ 35
  d_law_is_name := c.def_ 36
  d_law := c.def_ 37
  d_BadName___init := c.def_ 38
  d_NameTaken___init := c.def_ 39
  d_NoPost___init := c.def_ 40
section
variable {P : Program} {w : World} {K : PySem.W.Frag} {mg : Str → Option Value} {base : Heap}
theorem z_BadName (T : Tx K mg) : Xn P w K mg base (He.ga K "BadName") "name" := by
  obtain ⟨fd, F⟩ := T.d_BadName___init
  exact ⟨T.xc_BadName, T.xn_BadName_name, _, fd, "name", T.xi_BadName.1, T.xi_BadName.2, init1_ok F sc_BadName___init (fun cdv A outer s H E => pss_one (ps_ost (pv 0) (pv 1))), F.bindsN (fun _ _ _ _ _ _ us hl => match us, hl with | [_, _], _ => rfl)⟩
theorem z_NameTaken (T : Tx K mg) : Xn P w K mg base (He.ga K "NameTaken") "name" := by
  obtain ⟨fd, F⟩ := T.d_NameTaken___init
  exact ⟨T.xc_NameTaken, T.xn_NameTaken_name, _, fd, "name", T.xi_NameTaken.1, T.xi_NameTaken.2, init1_ok F sc_NameTaken___init (fun cdv A outer s H E => pss_one (ps_ost (pv 0) (pv 1))), F.bindsN (fun _ _ _ _ _ _ us hl => match us, hl with | [_, _], _ => rfl)⟩
theorem z_NoPost (T : Tx K mg) : Xn P w K mg base (He.ga K "NoPost") "name" := by
  obtain ⟨fd, F⟩ := T.d_NoPost___init
  exact ⟨T.xc_NoPost, T.xn_NoPost_name, _, fd, "name", T.xi_NoPost.1, T.xi_NoPost.2, init1_ok F sc_NoPost___init (fun cdv A outer s H E => pss_one (ps_ost (pv 0) (pv 1))), F.bindsN (fun _ _ _ _ _ _ us hl => match us, hl with | [_, _], _ => rfl)⟩
theorem all_ok {fd : FuncData} (T : Tx K mg) (F : FunD K "law" "law" (defArgs s_law) (defBody s_law) (defScope s_law) [] [] (He.ga K "law") fd) : FnOk P w K mg base (L2.CX P w) 32 (He.ga K "law") fd ["_law_script"] (spC K (ct_law K)) := by
  have Z_BadName : Xn P w K mg base (He.ga K "BadName") "name" := z_BadName T
  have Z_NameTaken : Xn P w K mg base (He.ga K "NameTaken") "name" := z_NameTaken T
  have Z_NoPost : Xn P w K mg base (He.ga K "NoPost") "name" := z_NoPost T
  have F_is_name : Fn P w K mg base 4 (He.ga K "is_name") ["word"] (ct_is_name K) := ok_is_name T
  have F_check_lanes : Fn P w K mg base 6 (He.ga K "check_lanes") ["lanes"] (ct_check_lanes K) := ok_check_lanes T F_is_name Z_BadName
  have F_crossed : Fn P w K mg base 4 (He.ga K "crossed") ["one", "two"] (ct_crossed K) := ok_crossed T
  have F_read_tree : Fn P w K mg base 22 (He.ga K "read_tree") ["tree", "start"] (ct_read_tree 8 K) := ok_read_tree T F_crossed 8
  have F_Machine___init : Fn P w K mg base 4 (He.ma K (He.ga K "Machine") "__init__") ["self", "atoms", "firsts", "lasts", "pairs", "is_optional"] (ct_Machine___init K) := ok_Machine___init T
  have F_made_machine : Fn P w K mg base 24 (He.ga K "made_machine") ["tree"] (ct_made_machine K) := ok_made_machine T F_read_tree F_Machine___init
  have F_Machine_takes : Fn P w K mg base 4 (He.ma K (He.ga K "Machine") "takes") ["self", "atom", "lane"] (ct_Machine_takes K) := ok_Machine_takes T
  have F_Machine_is_behind : Fn P w K mg base 4 (He.ma K (He.ga K "Machine") "is_behind") ["self", "places", "atom"] (ct_Machine_is_behind K) := ok_Machine_is_behind T
  have F_Machine_after : Fn P w K mg base 6 (He.ma K (He.ga K "Machine") "after") ["self", "places", "lane"] (ct_Machine_after K) := ok_Machine_after T F_Machine_takes F_Machine_is_behind
  have F_Machine_started : Fn P w K mg base 6 (He.ma K (He.ga K "Machine") "started") ["self", "lane"] (ct_Machine_started K) := ok_Machine_started T F_Machine_takes
  have F_Machine_is_done : Fn P w K mg base 4 (He.ma K (He.ga K "Machine") "is_done") ["self", "places"] (ct_Machine_is_done K) := ok_Machine_is_done T
  have F_all_names : Fn P w K mg base 4 (He.ga K "all_names") ["one", "two"] (ct_all_names K) := ok_all_names T
  have F_least_parting : Fn P w K mg base 8 (He.ga K "least_parting") ["one", "two", "is_one_sided"] (ct_least_parting K) := ok_least_parting T F_Machine_after F_Machine_started F_Machine_is_done F_all_names
  have F_Pattern___init : Fn P w K mg base 4 (He.ma K (He.ga K "Pattern") "__init__") ["self", "tree"] (ct_Pattern___init K) := ok_Pattern___init T
  have F_any_of : FnV P w K mg base 8 (He.ga K "any_of") (ct_any_of K) := ok_any_of T F_check_lanes F_Pattern___init
  have F_none_of : FnV P w K mg base 8 (He.ga K "none_of") (ct_none_of K) := ok_none_of T F_check_lanes F_Pattern___init
  have F_word_pattern : Fn P w K mg base 6 (He.ga K "word_pattern") ["names"] (ct_word_pattern K) := ok_word_pattern T F_Pattern___init
  have F_walk_of : FnV P w K mg base 8 (He.ga K "walk_of") (ct_walk_of K) := ok_walk_of T F_check_lanes F_word_pattern
  have F_as_pattern : Fn P w K mg base 8 (He.ga K "as_pattern") ["thing"] (ct_as_pattern K) := ok_as_pattern T F_check_lanes F_word_pattern
  have F_machine_of : Fn P w K mg base 26 (He.ga K "machine_of") ["thing"] (ct_machine_of K) := ok_machine_of T F_made_machine F_as_pattern
  have F_within : Fn P w K mg base 28 (He.ga K "within") ["one", "two"] (ct_within K) := ok_within T F_least_parting F_machine_of
  have F_parting : Fn P w K mg base 28 (He.ga K "parting") ["one", "two"] (ct_parting K) := ok_parting T F_least_parting F_machine_of
  have F_Round___init : Fn P w K mg base 8 (He.ma K (He.ga K "Round") "__init__") ["self", "lanes"] (ct_Round___init K) := ok_Round___init T F_check_lanes
  have F_Net___init : FnE P w K mg base 4 (He.ma K (He.ga K "Net") "__init__") ["self", "order", "ends_by_lane"] [.ref (He.dflAt ("Net", some "__init__") 0 K), .non] (ct_Net___init K) := ok_Net___init T
  have F_Net_posts : Fn P w K mg base 4 (pga K (He.ga K "Net") "posts") ["self"] (ct_Net_posts K) := ok_Net_posts T
  have F_Net_lanes : Fn P w K mg base 4 (pga K (He.ga K "Net") "lanes") ["self"] (ct_Net_lanes K) := ok_Net_lanes T
  have F_Net_post : Fn P w K mg base 6 (He.ma K (He.ga K "Net") "post") ["self", "name"] (ct_Net_post K) := ok_Net_post T F_is_name Z_BadName Z_NameTaken
  have F_Net_lane : Fn P w K mg base 6 (He.ma K (He.ga K "Net") "lane") ["self", "name", "start", "end"] (ct_Net_lane K) := ok_Net_lane T F_is_name Z_BadName Z_NameTaken Z_NoPost
  have F_law_cell : Fn P w K mg base 4 (He.ga K "_law_cell") ["_law_script", "_law_k"] (ct_law_cell K) := ok_law_cell T
  have F_law_pool : Fn P w K mg base 4 (He.ga K "_law_pool") ["_law_cell_here"] (ct_law_pool K) := ok_law_pool T
  have F_law_take : Fn P w K mg base 4 (He.ga K "_law_take") ["_law_pool_here", "_law_many"] (ct_law_take K) := ok_law_take T
  have F_law_names : Fn P w K mg base 6 (He.ga K "_law_names") ["_law_pool_here", "_law_many"] (ct_law_names K) := ok_law_names T F_law_take
  have F_law_spoiled : Fn P w K mg base 6 (He.ga K "_law_spoiled") ["_law_pool_here", "_law_word"] (ct_law_spoiled K) := ok_law_spoiled T F_law_take
  have F_law_pattern : Fn P w K mg base 10 (He.ga K "_law_pattern") ["_law_made_by", "_law_words"] (ct_law_pattern K) := ok_law_pattern T F_any_of F_none_of F_walk_of
  have F_law_refused : Fn P w K mg base 30 (He.ga K "_law_refused") ["_law_words", "_law_kind"] (ct_law_refused K) := ok_law_refused T F_any_of F_within F_parting F_Round___init F_law_pattern
  have F_law_added : Fn P w K mg base 8 (He.ga K "_law_added") ["_law_word"] (ct_law_added K) := ok_law_added T F_Net___init F_Net_posts F_Net_lanes F_Net_post F_Net_lane
  have F_law_is_name : Fn P w K mg base 4 (He.ga K "_law_is_name") ["_law_word"] (ct_law_is_name K) := ok_law_is_name T
  exact ok_law T F_law_cell F_law_pool F_law_take F_law_names F_law_spoiled F_law_refused F_law_added F_law_is_name F
end
end K02
open PySem PySem.W PySem.Calls PyProof.Rows
theorem PySem.Challenge.cw_alsoshown_k02_names_taken_and_refused_holds : PySem.Challenge.rw_alsoshown_k02_names_taken_and_refused.Holds := by
  w_on; o_law
  refine HandSHeadRun.head_any (r := K02.R) (q := K02.qv) (H := K02.hk) (ob := K02.ob) (M := 14000) (loose := K02.names) (d := HandSHeadRun.topDef K02.R.prog 76) (kwd := []) K02.ob_eq
    (by kernel_rfl) (fun s => by kernel_rfl) K02.run (by kernel_rfl) (by kernel_rfl) (by kernel_rfl) (by rfl) (by first | assumption | decide +kernel) (by decide +kernel) ⟨rfl, rfl, rfl, rfl, rfl, by decide +kernel⟩ ?hw ?hc
  case hw => w_witness2
  case hc =>
    refine DL.walk_D (l := PySem.Challenge.rw_alsoshown_k02_names_taken_and_refused) (n := 63) (k := 32) (x := "_law_script") rfl (by decide) (by kernel_rfl) ⟨rfl, by decide, by decide⟩ ?F
    intro w mg fa h Y G hmg0
    obtain ⟨K, KX, c⟩ := Y
    have hmg : mg ("law" : PySem.Str) = some (.ref fa) := by
      have e : (HandSHeadRun.topDef K02.R.prog 76).name = ("law" : PySem.Str) := by kernel_rfl
      rw [← e]
      exact hmg0
    have T := K02.tx_of KX G c
    obtain ⟨fd, F⟩ := T.d_law
    have e := hmg.symm.trans T.g_law.1
    cases e
    exact ⟨K, K02.ct_law K, fd, KX, fun z ns hs => ⟨z, rfl, ns, hs, rfl, rfl⟩, fun s v => L2.FunD.bindsA (ps := ["_law_script"]) F (fun _ _ _ _ _ _ us hl => match us, hl with | [_], _ => rfl) s [v] rfl, fun base => K02.all_ok T F⟩


