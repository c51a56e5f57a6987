import PyProof.Rows.All
import Wide.All
import OpenK.AllK
import Wide.FinOn
import HandS.Base
import HandS.Call
import HandS.List
import HandS.Comp
import HandS.Dict
import HandS.Iter
import HandS.Text
import HandS.Evl
import HandS.TupAny
import KE.KeyNested
import HandS.Wide
import HandS.Steps
import HandS.Exc
import HandS.Words
import HandS.WordsExc
import PyProof.NeData
import HandS.OwnEq
import HandS.Property
import HandS.IsInst
import HandS.ExcInit
import HandS.Defaults
import KE.KOpsOwn
import PyProof.InstNe
import HandS.Head0
import HandS.ExcField
import HandS.ExcOwn
import HandS.Codes
import HandS.Conv
import HandS.Style
import KE.KStateDown
import HandS.Head1
import HandS.Head2
import HandS.HeadEnd
import HandS.HeadHook1
import HandS.HeadHook2
import HandS.EndBits
import HandS.TupMul
import KE.DataCmp
import KE.DatumOrd
import HandS.DictComp
import HandS.RaiseMore
import KE.DataEq
import HandS.Finally
import KE.GoesNew
import KE.GoesMore
import OpenK.KMeth
import HandS.Small
import HandS.TupSets
import HandS.Star
import PyProof.Rows.TupDisplay
import KE.KDictCopyH
import PyProof.FactsAll.dict_2
import KE.GoesDict
import HandS.SetKeys
import HandS.GenCall
import HandS.GenList
import HandS.TryOnly
import KE.GoesEnum
import HandS.FStr
import HandS.HotCalls
import HandS.SetTxt0
import HandS.SetFor
import PyProof.StrBlock2
import HandS.CallSlots
import PySem.Challenge.RW_alsoshown_k61_known_by_windows
set_option Elab.async false
set_option linter.all false
set_option maxRecDepth 100000
set_option maxHeartbeats 4000000
namespace DL
open PySem L2 PySem.W
def lineOk (C : Addr) (cd : ClassData) : Bool := !cd.hasDel && (cd.hasDict && (match cd.mro with
  | x :: r => x == .ref C && PySem.HandSPX.refsVE r
  | [] => false))
def slotsOk (sl : Array (Option Value)) : Bool := sl.size == 6 && sl[4]? == some (some (.builtin "ValueError.__new__"))
def errObj (C : Addr) (o : Obj) : Bool := o.cls == .type "type" && (slotsOk o.slots && (match o.data with
  | .cls cd => lineOk C cd
  | _ => false))
def oexB (K : PySem.W.Frag) (C : Addr) : Bool := (K.lookup C).any (errObj C) && (decide (findIn K (.ref C) "__setattr__" = some (some (.builtin "object.__setattr__"))) && (decide (subIn K (.ref C) (.type "BaseException") = some true) && (decide (typeIn K (.ref C) = some (.type "type")) && keepIn K (.ref C))))
def xcB (K : PySem.W.Frag) (C : Addr) : Bool := oexB K C && xfB K C
def EqT (K : PySem.W.Frag) (C : Addr) : Prop := ∀ T ∈ ["NoneType", "bool", "int", "str", "list", "tuple"], subIn K (.type T) (.ref C) = some false
structure ClsI (K : PySem.W.Frag) (C : Addr) : Prop where
  cl : Cls K C
  ha : findIn K (.ref C) "__class__" = some (some (.builtin "object.__class__"))
  hn : specialIn K (.builtin "object.__class__") "__get__" = some (some (.builtin "getset_descriptor.__get__"))
  htk : takesIn K (.builtin "object.__class__") = some true
  hm : mroIn K C (.type "object") = some true
structure Sm (K : PySem.W.Frag) (C : Addr) (m : Str) (f : Addr) : Prop where
  at_ : findIn K (.ref C) m = some (some (.ref f))
  fn : isFn K (.ref f) = true
structure Bo (K : PySem.W.Frag) (C : Addr) (op : Operator) (f : Addr) : Prop where
  first : selfFirst K C = true
  sm : Sm K C (PySem.dunder op.info.2) f
  refl : findIn K (.ref C) (dunderR op.info.2) = some none
structure BoT (K : PySem.W.Frag) (C : Addr) (op : Operator) (T : String) : Prop where
  l : ∃ fo, findIn K (.type T) (PySem.dunder op.info.2) = some fo
  r : ∃ ro, findIn K (.type T) (dunderR op.info.2) = some ro
  sub : subIn K (.type T) (.ref C) = some false
end DL
/-! DK: what the head tells of a text's defs and classes (own work). -/
namespace DL
open PySem L2 PySem.W

/-- the getter of the property m of the class at C -/
def pga (K : PySem.W.Frag) (C : Addr) (m : Str) : Addr := match recIn K (He.ma K C m) "property" with
  | some (.ref g :: _) => g
  | _ => 0
/-! the picture of a def: all that the text fixes of it -/
structure Pic where
  nm : Str
  qn : Str
  pars : Arguments
  code : FuncBody
  sco : Scope
  env : Addr × Addr
  clo : List (Str × Addr)
def picOf (f : FuncData) : Pic := ⟨f.name, f.qualname, f.params, f.body, f.scope, (f.globals, f.builtins), f.closure⟩
def asFn : Data → Option FuncData
  | .func f => some f
  | _ => none
def fnAt (K : PySem.W.Frag) (a : Addr) : Option FuncData := (K.lookup a).bind fun o => asFn o.data
theorem asFn_some {dt : Data} {f : FuncData} (h : asFn dt = some f) : dt = .func f := by
  cases dt <;> first | (cases h; rfl) | cases h
theorem fnAt_some {K : PySem.W.Frag} {a : Addr} {f : FuncData} (h : fnAt K a = some f) : ∃ o, K.lookup a = some o ∧ o.data = .func f := by
  obtain ⟨o, h1, h2⟩ := Option.bind_eq_some_iff.mp h
  exact ⟨o, h1, asFn_some h2⟩
/-- a def of the text: where it stands, its picture, its defaults -/
structure Df where
  at_ : PySem.W.Frag → Addr
  name : Str
  qual : Str
  params : Arguments
  body : List Stmt
  scope : Scope
  dfs : PySem.W.Frag → List V
def Df.pic (d : Df) : Pic := ⟨d.name, d.qual, d.params, .stmts d.body, d.scope, (mainGlobals, builtinsNs), []⟩
def Df.good (K : PySem.W.Frag) (d : Df) : Bool := keepIn K (.ref (d.at_ K)) && (fnAt K (d.at_ K)).any fun f => codeIn K f.code d.qual && (He.dflB K f.defaults (d.dfs K) && He.kwdB K f.kwdefaults [])
theorem Df.known {K : PySem.W.Frag} {d : Df} (e : (fnAt K (d.at_ K)).map picOf = some d.pic) (c : d.good K = true) : ∃ fd, FunD K d.name d.qual d.params d.body d.scope (d.dfs K) [] (d.at_ K) fd := by
  have c' := Bool.and_eq_true_iff.mp c
  cases hf : fnAt K (d.at_ K) with
  | none =>
    rw [hf] at e
    cases e
  | some f =>
    rw [hf] at e c'
    have c2 : (codeIn K f.code d.qual && (He.dflB K f.defaults (d.dfs K) && He.kwdB K f.kwdefaults [])) = true := c'.2
    have c3 := Bool.and_eq_true_iff.mp c2
    have c4 := Bool.and_eq_true_iff.mp c3.2
    obtain ⟨o, lk, hd⟩ := fnAt_some hf
    have same : f = PySem.W.fnOf d.name d.qual d.params d.body d.scope f.defaults f.kwdefaults f.doc f.pyModule f.annotations f.code f.closureTuple := by
      have e1 : picOf f = d.pic := Option.some.inj e
      have n := congrArg Pic.nm e1
      have qn := congrArg Pic.qn e1
      have ps := congrArg Pic.pars e1
      have bd := congrArg Pic.code e1
      have sc := congrArg Pic.sco e1
      have ev := congrArg Pic.env e1
      have cl := congrArg Pic.clo e1
      have g := congrArg Prod.fst ev
      have bt := congrArg Prod.snd ev
      cases f
      cases n; cases qn; cases ps; cases bd; cases sc; cases cl; cases g; cases bt
      rfl
    have lk2 : K.lookup (d.at_ K) = some ⟨o.cls, o.dict, .func f, o.slots⟩ := by
      rw [lk, ← hd]
    exact ⟨f, ⟨o.cls, o.dict, f.defaults, f.kwdefaults, f.doc, f.pyModule, f.annotations, f.code, f.closureTuple, o.slots, same, lk2, c3.1, He.dflB_ok c4.1, He.kwdB_ok c4.2⟩, c'.1⟩
abbrev Fx := PySem.W.Frag → Bool
/-- all facts and all defs of a text, looked at in one heap -/
abbrev AlY : Type := Bool × List (Option Pic)
def lookY (ex : List Fx) (fn : List Df) (K : PySem.W.Frag) : AlY := (ex.all (· K) && fn.all (Df.good K), fn.map fun d => (fnAt K (d.at_ K)).map picOf)
def dueY (fn : List Df) : AlY := (true, fn.map fun d => some d.pic)
def SaysY (ex : List Fx) (fn : List Df) (K : PySem.W.Frag) : Prop := lookY ex fn K = dueY fn
section
variable {ex : List Fx} {fn : List Df} {K : PySem.W.Frag}
theorem SaysY.both (c : SaysY ex fn K) : (∀ f ∈ ex, f K = true) ∧ ∀ d ∈ fn, Df.good K d = true := by
  have c1 : (ex.all (· K) && fn.all (Df.good K)) = true := congrArg Prod.fst c
  rw [Bool.and_eq_true, List.all_eq_true, List.all_eq_true] at c1
  exact c1
theorem SaysY.fact (c : SaysY ex fn K) (i : Nat) {f : Fx} (h : ex[i]? = some f := by rfl) : f K = true := c.both.1 f (List.mem_of_getElem? h)
theorem SaysY.def_ (c : SaysY ex fn K) (i : Nat) {d : Df} (h : fn[i]? = some d := by rfl) : ∃ fd, FunD K d.name d.qual d.params d.body d.scope (d.dfs K) [] (d.at_ K) fd := by
  refine Df.known ?_ (c.both.2 d (List.mem_of_getElem? h))
  have e := congrArg (fun z : AlY => z.2[i]?) c
  simp only [lookY, dueY, List.getElem?_map, h, Option.map_some, Option.some.injEq] at e
  exact e
end
/-! ### the facts, by Bool -/
section
variable {K : PySem.W.Frag} {C : Addr}
def fGlo (x : Str) : Fx := fun K => (He.Fa.glo x).ok K && keepIn K (.ref (He.ga K x))
def fFree (x : Str) : Fx := fun K => (He.Fa.free x).ok K
def fStr (x z : Str) : Fx := fun K => (He.Fa.str x z).ok K
def fInt (x : Str) (i : Int) : Fx := fun K => (He.Fa.int x i).ok K
def fCls (x : Str) : Fx := fun K => (He.Fa.cls x).ok K
def fMkr (x : Str) : Fx := fun K => (He.Fa.mkr x).ok K
def fNoat (x f : Str) : Fx := fun K => (He.Fa.noat x f).ok K
def fMeth (x m : Str) : Fx := fun K => (He.Fa.meth x m).ok K
def fProp (x m : Str) : Fx := fun K => He.eqO (findIn K (.ref (He.ga K x)) m) (some (some (.ref (He.ma K (He.ga K x) m)))) && (He.eqO (specialIn K (.ref (He.ma K (He.ga K x) m)) "__get__") (some (some (.builtin "property.__get__"))) &&
  (decide (takesIn K (.ref (He.ma K (He.ga K x) m)) = some true) && (match recIn K (He.ma K (He.ga K x) m) "property" with
    | some (.ref _ :: _) => true
    | _ => false)))
theorem prop_ok {x m : Str} (h : fProp x m K = true) : PropOf K (He.ga K x) m (He.ma K (He.ga K x) m) (pga K (He.ga K x) m) := by
  obtain ⟨h1, h⟩ := He.ba h
  obtain ⟨h2, h⟩ := He.ba h
  obtain ⟨h3, h4⟩ := He.ba h
  refine ⟨He.eqO_ok h1, He.eqO_ok h2, of_decide_eq_true h3, ?_⟩
  unfold pga
  split at h4
  · rename_i a r q
    rw [q]
    exact ⟨r, rfl⟩
  · cases h4
def fXc (x : Str) : Fx := fun K => xcB K (He.ga K x)
def fXi (x : Str) : Fx := fun K => He.eqO (findIn K (.ref (He.ga K x)) "__init__") (some (some (.ref (He.ma K (He.ga K x) "__init__")))) && decide (typeIn K (.ref (He.ma K (He.ga K x) "__init__")) = some (.type "function"))
theorem xi_ok {x : Str} (h : fXi x K = true) : findIn K (.ref (He.ga K x)) "__init__" = some (some (.ref (He.ma K (He.ga K x) "__init__"))) ∧ typeIn K (.ref (He.ma K (He.ga K x) "__init__")) = some (.type "function") := let ⟨a, b⟩ := He.ba h; ⟨He.eqO_ok a, of_decide_eq_true b⟩
def fX0 (x : Str) : Fx := fun K => (He.Fa.exc x).ok K
def fExm (x y : Str) (b : Bool) : Fx := fun K => (He.Fa.exm x y b).ok K
def fKit (t T : String) (b : Bool) : Fx := fun K => decide (kitOne K (.type t) (.type T) = some b)
theorem kit_ok {t T : String} {b : Bool} (h : fKit t T b K = true) : kitOne K (.type t) (.type T) = some b := of_decide_eq_true h
end
/-! ### words of the derivations -/
section
variable {X : Cx} {E : XK}
theorem pass_own {E₁ : Value → Shared → Prop} (hs : X.stack = X.env :: X.outer) (hf : X.env.frame = some X.env.locals) (hex : X.ex = []) (hx : X.xe = fun e s' => wpAny (model X.prog X.w) X.A (leaving X.env e) (fun _ s'' => L2.CX X.prog X.w X.outer X.H_0 X.s_0 E e s'') E₁ s') : Passes (L2.CX X.prog X.w) X E :=
  passes_call (takes_of hs hf hex hx) fun _ _ _ _ h => h
def rMulU : R2 := fun x y H Q => rI PySem.IntMulOk (fun i j => .int (i * j)) x y H Q ∨ rRep x y H Q
theorem op_mulU : OpR X (binaryOp .Mult) rMulU := OpR.or (opI fun _ _ _ _ _ _ _ hc q => PyProof.Rows.mul_int q hc) op_rep
def rInU (K : PySem.W.Frag) : R2 := fun x y H Q => rInS x y H Q ∨ rIn K false x y H Q
theorem op_inU : OpR X (compareOp .In) (rInU X.K) := op_inS.or op_in_seq
def rNiU (K : PySem.W.Frag) : R2 := fun x y H Q => rNotInS x y H Q ∨ rIn K true x y H Q
theorem op_niU : OpR X (compareOp .NotIn) (rNiU X.K) := op_notInS.or op_notIn_seq
end
end DL

/-! DK2: the head's look, from the names that a text wants alone (own work). -/
namespace DL
open PySem L2 PySem.W
/-- the addresses that are not yet in the mask m, each once -/
def freshA {α : Type} : List Addr → Nat → List Addr → (List Addr → Nat → α) → α
  | [], m, acc, k => k acc m
  | a :: r, m, acc, k => HandSHeadRun.frNat a fun b => if Nat.beq ((m >>> b) % 2) 1 then freshA r m acc k else HandSHeadRun.frNat (m + (1 <<< b)) fun m2 => freshA r m2 (b :: acc) k
/-- what these reach in n steps -/
def walkA (g : Addr → Option Obj) : Nat → Nat → List Addr → List Addr → List Addr
  | 0, _, _, all => all
  | n + 1, m, fr, all => freshA (fr.flatMap fun a => match g a with
      | some o => He.refsD o
      | none => []) m [] fun new m2 => walkA g n m2 new (all ++ new)
def rootsA (g : Addr → Option Obj) (nm : List Str) : List Addr := nm.filterMap fun x => match nsIn (He.frG g [mainGlobals]) mainGlobals x with
  | some (some (.ref a)) => some a
  | _ => none
def asZ (g : Addr → Option Obj) (nm : List Str) (n : Nat) : List Addr := freshA (rootsA g nm) ((1 <<< mainGlobals) ||| (1 <<< builtinsNs)) [] fun rs m => mainGlobals :: walkA g n m rs rs
def obsZG (n : Nat) (nm : List Str) (ex : List Fx) (fn : List Df) (g : Addr → Option Obj) : AlY := lookY ex fn (He.frG g (asZ g nm n))
def hookZ (n : Nat) (nm : List Str) (ex : List Fx) (fn : List Df) : PySem.W.Hook :=
  { α := AlY, obs := fun s => obsZG n nm ex fn s.heap.get?, val := fun _ => dueY fn, says := fun _ h => ∃ K : PySem.W.Frag, K.In h ∧ SaysY ex fn K,
    of := fun _ _ e => ⟨_, He.frG_in, e⟩,
    keeps := fun _ _ _ w k => w.elim fun K z => ⟨K, PySem.W.Frag.In.keeps z.1 k, z.2⟩ }
theorem obsZG_eq {n : Nat} {nm : List Str} {ex : List Fx} {fn : List Df} {g : Addr → Option Obj} {s : Shared} (h : ∀ a, g a = s.heap.get? a) : obsZG n nm ex fn g = (hookZ n nm ex fn).obs s :=
  congrArg (obsZG n nm ex fn) (funext h)
/-! ### facts that the head is asked -/
/-- an empty tuple of the module -/
def IsT0 (K : PySem.W.Frag) (a : Addr) : Prop := ∃ (o : Obj) (n : Nat), K.lookup a = some o ∧ o.cls = .type "tuple" ∧ o.data = .seq #[] n
def isT0 : Option Obj → Bool
  | some ⟨.type T, _, .seq its _, _⟩ => decide (T = "tuple") && its.isEmpty
  | _ => false
def fT0 (p : Str × Option Str) (i : Nat) : Fx := fun K => isT0 (K.lookup (He.dflAt p i K))
end DL

/-! DK4: facts that the head looks up, made later than DK (own work). -/
namespace DL
open PySem L2 PySem.W
end DL

/-! DK3: the head's run, its facts looked at by parts (own work). -/
namespace DL
open PySem L2 PySem.W
end DL

/-! DK5: the head's run, looked at in several runs that each keep little (own work). -/
namespace DL
open PySem L2 PySem.W HandSHeadRun
/-- what a run of the top says of its own names -/
def SeenEq (r : OpenRow) (q : Program) (M : Nat) (loose : List Str) (w : World) : Prop :=
  ∀ os : OsState, (endF (stepQ (denQ tabQ) r.prog w) M r.prog w os).map (fun s => (looksF r.prog (boot_heap w.params) s.abs, seenQ q loose (importedModules r.prog.main.body) (fun s => xlAt q [] s && recOk r.toRowW.records s) s.abs)) = some (true, openGood q loose)
/-- what a run of the top says of some facts -/
def FactEq (r : OpenRow) (n : Nat) (nm : List Str) (e : List Fx) (f : List Df) (M : Nat) (w : World) : Prop :=
  ∀ os : OsState, (endF (stepQ (denQ tabQ) r.prog w) M r.prog w os).map (fun s => obsZG n nm e f (getT s)) = some (dueY f)
theorem runEq_of {r : OpenRow} {q : Program} {n M : Nat} {nm loose : List Str} {e : List Fx} {f : List Df} {w : World} (h1 : SeenEq r q M loose w) (h2 : FactEq r n nm e f M w) :
    RunEq r q (hookZ n nm e f) (fun s => obsZG n nm e f (getT s)) M loose w := fun os => by
  obtain ⟨s, hs, x⟩ := Option.map_eq_some_iff.mp (h1 os)
  have b := h2 os
  obtain ⟨x1, x2⟩ := Prod.mk.inj x
  rw [hs] at b
  rw [hs]
  exact congrArg some (Prod.ext x1 (Prod.ext x2 (Option.some.inj b)))
end DL

namespace DL
open PySem L2 PySem.W
end DL


namespace K61
open PySem L2 DL PySem.W
abbrev top (i : Nat) : Stmt := PySem.Challenge.pw_alsoshown_k61_known_by_windows.main.body.getD i (.Pass ⟨0, 0, 0, 0⟩)
def clsBody : Stmt → List Stmt
  | .ClassDef (body := b) .. => b
  | _ => []
abbrev mth (i j : Nat) : Stmt := (clsBody (top i)).getD j (.Pass ⟨0, 0, 0, 0⟩)
abbrev s_is_name : Stmt := top 15
abbrev s_is_whole : Stmt := top 16
abbrev s_Net___init : Stmt := mth 19 0
abbrev s_Net_posts : Stmt := mth 19 1
abbrev s_Net_lanes : Stmt := mth 19 2
abbrev s_Net_post : Stmt := mth 19 3
abbrev s_Net_lane : Stmt := mth 19 4
abbrev s_is_text : Stmt := top 23
abbrev s_windows_in_turn : Stmt := top 24
abbrev s_checked_windows : Stmt := top 25
abbrev s_windows : Stmt := top 26
abbrev s_window_net : Stmt := top 27
abbrev s_known_by : Stmt := top 28
abbrev s_law_cell : Stmt := top 30
abbrev s_law_pool : Stmt := top 31
abbrev s_law_take : Stmt := top 32
abbrev s_law_mixed : Stmt := top 33
abbrev s_law_ends : Stmt := top 34
abbrev s_law_ways : Stmt := top 35
abbrev s_law_hidden : Stmt := top 36
abbrev s_law_windows : Stmt := top 37
abbrev s_law_text : Stmt := top 38
abbrev s_law_window_net : Stmt := top 39
abbrev s_law_root : Stmt := top 40
abbrev s_law_same_ring : Stmt := top 41
abbrev s_law_due : Stmt := top 42
abbrev s_law_refused : Stmt := top 43
abbrev s_law_all_alike : Stmt := top 44
abbrev s_law : Stmt := top 45
abbrev s_BadName___init : Stmt := mth 3 0
abbrev s_NameTaken___init : Stmt := mth 4 0
abbrev s_NoPost___init : Stmt := mth 5 0
abbrev s_BadNumber___init : Stmt := mth 9 0
abbrev s_BadWord___init : Stmt := mth 10 0
theorem sc_is_name : FnScope ["word", "sign"] ["word"] (defScope s_is_name) := ⟨rfl, rfl, rfl, by decide +kernel, rfl, by decide +kernel, by decide +kernel⟩
theorem sc_is_whole : FnScope ["value"] ["value"] (defScope s_is_whole) := ⟨rfl, rfl, rfl, by decide +kernel, rfl, by decide +kernel, by decide +kernel⟩
theorem sc_Net___init : FnScope ["self", "order", "ends_by_lane", "known", "lane"] ["self", "order", "ends_by_lane"] (defScope s_Net___init) := ⟨rfl, rfl, rfl, by decide +kernel, rfl, by decide +kernel, by decide +kernel⟩
theorem sc_Net_posts : FnScope ["self"] ["self"] (defScope s_Net_posts) := ⟨rfl, rfl, rfl, by decide +kernel, rfl, by decide +kernel, by decide +kernel⟩
theorem sc_Net_lanes : FnScope ["self", "lane"] ["self"] (defScope s_Net_lanes) := ⟨rfl, rfl, rfl, by decide +kernel, rfl, by decide +kernel, by decide +kernel⟩
theorem sc_Net_post : FnScope ["self", "name"] ["self", "name"] (defScope s_Net_post) := ⟨rfl, rfl, rfl, by decide +kernel, rfl, by decide +kernel, by decide +kernel⟩
theorem sc_Net_lane : FnScope ["self", "name", "start", "end", "place"] ["self", "name", "start", "end"] (defScope s_Net_lane) := ⟨rfl, rfl, rfl, by decide +kernel, rfl, by decide +kernel, by decide +kernel⟩
theorem sc_is_text : FnScope ["text", "most", "sign"] ["text", "most"] (defScope s_is_text) := ⟨rfl, rfl, rfl, by decide +kernel, rfl, by decide +kernel, by decide +kernel⟩
theorem sc_windows_in_turn : FnScope ["text", "size", "long", "place"] ["text", "size"] (defScope s_windows_in_turn) := ⟨rfl, rfl, rfl, by decide +kernel, rfl, by decide +kernel, by decide +kernel⟩
theorem sc_checked_windows : FnScope ["text", "size"] ["text", "size"] (defScope s_checked_windows) := ⟨rfl, rfl, rfl, by decide +kernel, rfl, by decide +kernel, by decide +kernel⟩
theorem sc_windows : FnScope ["text", "k"] ["text", "k"] (defScope s_windows) := ⟨rfl, rfl, rfl, by decide +kernel, rfl, by decide +kernel, by decide +kernel⟩
theorem sc_window_net : FnScope ["words", "word", "lanes", "net", "post"] ["words"] (defScope s_window_net) := ⟨rfl, rfl, rfl, by decide +kernel, rfl, by decide +kernel, by decide +kernel⟩
theorem sc_known_by : FnScope ["text", "size", "net"] ["text"] (defScope s_known_by) := ⟨rfl, rfl, rfl, by decide +kernel, rfl, by decide +kernel, by decide +kernel⟩
theorem sc_law_cell : FnScope ["_law_script", "_law_k"] ["_law_script", "_law_k"] (defScope s_law_cell) := ⟨rfl, rfl, rfl, by decide +kernel, rfl, by decide +kernel, by decide +kernel⟩
theorem sc_law_pool : FnScope ["_law_cell_here", "_law_folded"] ["_law_cell_here"] (defScope s_law_pool) := ⟨rfl, rfl, rfl, by decide +kernel, rfl, by decide +kernel, by decide +kernel⟩
theorem sc_law_take : FnScope ["_law_pool_here", "_law_many", "_law_draw", "_law_mixed_here"] ["_law_pool_here", "_law_many"] (defScope s_law_take) := ⟨rfl, rfl, rfl, by decide +kernel, rfl, by decide +kernel, by decide +kernel⟩
theorem sc_law_mixed : FnScope ["_law_pool_here", "_law_things", "_law_left", "_law_mixed_here", "_law_k", "_law_at"] ["_law_pool_here", "_law_things"] (defScope s_law_mixed) := ⟨rfl, rfl, rfl, by decide +kernel, rfl, by decide +kernel, by decide +kernel⟩
theorem sc_law_ends : FnScope ["_law_parts", "_law_ends_here", "_law_lane", "_law_start", "_law_end"] ["_law_parts"] (defScope s_law_ends) := ⟨rfl, rfl, rfl, by decide +kernel, rfl, by decide +kernel, by decide +kernel⟩
theorem sc_law_ways : FnScope ["_law_parts", "_law_start", "_law_ways_here", "_law_queue", "_law_at", "_law_lane", "_law_first", "_law_second"] ["_law_parts", "_law_start"] (defScope s_law_ways) := ⟨rfl, rfl, rfl, by decide +kernel, rfl, by decide +kernel, by decide +kernel⟩
theorem sc_law_hidden : FnScope ["_law_pool_here", "_law_parts", "_law_part", "_law_wanted", "_law_ends_here", "_law_row", "_law_inner", "_law_start", "_law_here", "_law_tour", "_law_lane", "_law_turn", "_law_out", "_law_step", "_law_goal"] ["_law_pool_here", "_law_parts", "_law_part", "_law_wanted"] (defScope s_law_hidden) := ⟨rfl, rfl, rfl, by decide +kernel, rfl, by decide +kernel, by decide +kernel⟩
theorem sc_law_windows : FnScope ["_law_text_here", "_law_size", "_law_long", "_law_found", "_law_k", "_law_one"] ["_law_text_here", "_law_size"] (defScope s_law_windows) := ⟨rfl, rfl, rfl, by decide +kernel, rfl, by decide +kernel, by decide +kernel⟩
theorem sc_law_text : FnScope ["_law_pool_here", "_law_most", "_law_letters", "_law_text_here", "_law_k"] ["_law_pool_here", "_law_most", "_law_letters"] (defScope s_law_text) := ⟨rfl, rfl, rfl, by decide +kernel, rfl, by decide +kernel, by decide +kernel⟩
theorem sc_law_window_net : FnScope ["_law_words", "_law_posts", "_law_word", "_law_post"] ["_law_words"] (defScope s_law_window_net) := ⟨rfl, rfl, rfl, by decide +kernel, rfl, by decide +kernel, by decide +kernel⟩
theorem sc_law_root : FnScope ["_law_text_here", "_law_size"] ["_law_text_here"] (defScope s_law_root) := ⟨rfl, rfl, rfl, by decide +kernel, rfl, by decide +kernel, by decide +kernel⟩
theorem sc_law_same_ring : FnScope ["_law_one", "_law_two"] ["_law_one", "_law_two"] (defScope s_law_same_ring) := ⟨rfl, rfl, rfl, by decide +kernel, rfl, by decide +kernel, by decide +kernel⟩
theorem sc_law_due : FnScope ["_law_text_here", "_law_size", "_law_posts", "_law_lanes"] ["_law_text_here"] (defScope s_law_due) := ⟨rfl, rfl, rfl, by decide +kernel, rfl, by decide +kernel, by decide +kernel⟩
theorem sc_law_refused : FnScope ["_law_thing", "e"] ["_law_thing"] (defScope s_law_refused) := ⟨rfl, rfl, rfl, by decide +kernel, rfl, by decide +kernel, by decide +kernel⟩
theorem sc_law_all_alike : FnScope ["_law_script", "_law_text_here", "_law_size", "_law_words", "_law_parts", "_law_k", "_law_tour", "_law_word", "_law_other"] ["_law_script", "_law_text_here", "_law_size"] (defScope s_law_all_alike) := ⟨rfl, rfl, rfl, by decide +kernel, rfl, by decide +kernel, by decide +kernel⟩
theorem sc_law : FnScope ["_law_script", "_law_turn", "_law_pool_here", "_law_letters", "_law_text_here", "_law_k", "_law_due_here", "_law_place", "_law_one", "_law_bad"] ["_law_script"] (defScope s_law) := ⟨rfl, rfl, rfl, by decide +kernel, rfl, by decide +kernel, by decide +kernel⟩
theorem sc_BadName___init : FnScope ["self", "name"] ["self", "name"] (defScope s_BadName___init) := ⟨rfl, rfl, rfl, by decide +kernel, rfl, by decide +kernel, by decide +kernel⟩
theorem sc_NameTaken___init : FnScope ["self", "name"] ["self", "name"] (defScope s_NameTaken___init) := ⟨rfl, rfl, rfl, by decide +kernel, rfl, by decide +kernel, by decide +kernel⟩
theorem sc_NoPost___init : FnScope ["self", "name"] ["self", "name"] (defScope s_NoPost___init) := ⟨rfl, rfl, rfl, by decide +kernel, rfl, by decide +kernel, by decide +kernel⟩
theorem sc_BadNumber___init : FnScope ["self", "value"] ["self", "value"] (defScope s_BadNumber___init) := ⟨rfl, rfl, rfl, by decide +kernel, rfl, by decide +kernel, by decide +kernel⟩
theorem sc_BadWord___init : FnScope ["self", "word"] ["self", "word"] (defScope s_BadWord___init) := ⟨rfl, rfl, rfl, by decide +kernel, rfl, by decide +kernel, by decide +kernel⟩
/-- what the top leaves -/
def exs0 : List Fx := [fStr "LETTERS" "abcdefghijklmnopqrstuvwxyz", fFree "len", fInt "LONGEST" 8, fFree "isinstance", fFree "str", fFree "all", fStr "DIGITS" "0123456789", fFree "bool", fFree "int", fFree "list", fT0 ("Net", some "__init__") 0, fFree "tuple", fGlo "is_name", fGlo "BadName", fGlo "NameTaken", fGlo "NoPost", fFree "range", fGlo "is_text", fGlo "BadWord", fGlo "is_whole", fGlo "BadNumber", fGlo "windows_in_turn", fFree "sorted", fFree "set", fGlo "checked_windows", fX0 "EmptyWalk", fGlo "EmptyWalk", fMkr "Net", fGlo "Net", fCls "Net"]
def exs1 : List Fx := [fMeth "Net" "post", fMeth "Net" "lane", fGlo "window_net", fGlo "windows", fProp "Net" "posts", fProp "Net" "lanes", fGlo "_law_take", fGlo "_law_ends", fGlo "_law_mixed", fGlo "_law_ways", fGlo "_law_window_net", fGlo "_law_windows", fGlo "known_by", fXc "BadWord", fNoat "BadWord" "word", fGlo "_law_hidden", fGlo "_law_pool", fGlo "_law_cell", fGlo "_law_same_ring", fGlo "_law_root", fGlo "_law_text", fGlo "_law_due", fGlo "_law_all_alike", fGlo "_law_refused", fXc "BadName", fXi "BadName", fNoat "BadName" "name", fXc "NameTaken", fXi "NameTaken", fNoat "NameTaken" "name"]
def exs2 : List Fx := [fXc "NoPost", fXi "NoPost", fNoat "NoPost" "name", fXc "BadNumber", fXi "BadNumber", fNoat "BadNumber" "value", fXi "BadWord", fGlo "law", fKit "NoneType" "str" false, fKit "bool" "str" false, fKit "int" "str" false, fKit "list" "str" false, fKit "tuple" "str" false, fKit "str" "str" true, fKit "NoneType" "int" false, fKit "str" "int" false, fKit "list" "int" false, fKit "tuple" "int" false, fKit "int" "int" true, fKit "int" "bool" false, fKit "bool" "int" true, fKit "bool" "bool" true, fNoat "Net" "order", fNoat "Net" "ends_by_lane", fExm "BadWord" "BadWord" true]
abbrev exs : List Fx := exs0 ++ exs1 ++ exs2
def dfs0 : List Df := [⟨fun K => (He.ga K "is_name"), "is_name", "is_name", defArgs s_is_name, defBody s_is_name, defScope s_is_name, fun K => []⟩, ⟨fun K => (He.ga K "is_whole"), "is_whole", "is_whole", defArgs s_is_whole, defBody s_is_whole, defScope s_is_whole, fun K => []⟩, ⟨fun K => (He.ma K (He.ga K "Net") "__init__"), "__init__", "Net.__init__", defArgs s_Net___init, defBody s_Net___init, defScope s_Net___init, fun K => [.ref (He.dflAt ("Net", some "__init__") 0 K), .non]⟩, ⟨fun K => (pga K (He.ga K "Net") "posts"), "posts", "Net.posts", defArgs s_Net_posts, defBody s_Net_posts, defScope s_Net_posts, fun K => []⟩, ⟨fun K => (pga K (He.ga K "Net") "lanes"), "lanes", "Net.lanes", defArgs s_Net_lanes, defBody s_Net_lanes, defScope s_Net_lanes, fun K => []⟩, ⟨fun K => (He.ma K (He.ga K "Net") "post"), "post", "Net.post", defArgs s_Net_post, defBody s_Net_post, defScope s_Net_post, fun K => []⟩, ⟨fun K => (He.ma K (He.ga K "Net") "lane"), "lane", "Net.lane", defArgs s_Net_lane, defBody s_Net_lane, defScope s_Net_lane, fun K => []⟩, ⟨fun K => (He.ga K "is_text"), "is_text", "is_text", defArgs s_is_text, defBody s_is_text, defScope s_is_text, fun K => []⟩, ⟨fun K => (He.ga K "windows_in_turn"), "windows_in_turn", "windows_in_turn", defArgs s_windows_in_turn, defBody s_windows_in_turn, defScope s_windows_in_turn, fun K => []⟩, ⟨fun K => (He.ga K "checked_windows"), "checked_windows", "checked_windows", defArgs s_checked_windows, defBody s_checked_windows, defScope s_checked_windows, fun K => []⟩, ⟨fun K => (He.ga K "windows"), "windows", "windows", defArgs s_windows, defBody s_windows, defScope s_windows, fun K => []⟩, ⟨fun K => (He.ga K "window_net"), "window_net", "window_net", defArgs s_window_net, defBody s_window_net, defScope s_window_net, fun K => []⟩, ⟨fun K => (He.ga K "known_by"), "known_by", "known_by", defArgs s_known_by, defBody s_known_by, defScope s_known_by, fun K => []⟩, ⟨fun K => (He.ga K "_law_cell"), "_law_cell", "_law_cell", defArgs s_law_cell, defBody s_law_cell, defScope s_law_cell, fun K => []⟩, ⟨fun K => (He.ga K "_law_pool"), "_law_pool", "_law_pool", defArgs s_law_pool, defBody s_law_pool, defScope s_law_pool, fun K => []⟩, ⟨fun K => (He.ga K "_law_take"), "_law_take", "_law_take", defArgs s_law_take, defBody s_law_take, defScope s_law_take, fun K => []⟩, ⟨fun K => (He.ga K "_law_mixed"), "_law_mixed", "_law_mixed", defArgs s_law_mixed, defBody s_law_mixed, defScope s_law_mixed, fun K => []⟩, ⟨fun K => (He.ga K "_law_ends"), "_law_ends", "_law_ends", defArgs s_law_ends, defBody s_law_ends, defScope s_law_ends, fun K => []⟩, ⟨fun K => (He.ga K "_law_ways"), "_law_ways", "_law_ways", defArgs s_law_ways, defBody s_law_ways, defScope s_law_ways, fun K => []⟩, ⟨fun K => (He.ga K "_law_hidden"), "_law_hidden", "_law_hidden", defArgs s_law_hidden, defBody s_law_hidden, defScope s_law_hidden, fun K => []⟩, ⟨fun K => (He.ga K "_law_windows"), "_law_windows", "_law_windows", defArgs s_law_windows, defBody s_law_windows, defScope s_law_windows, fun K => []⟩, ⟨fun K => (He.ga K "_law_text"), "_law_text", "_law_text", defArgs s_law_text, defBody s_law_text, defScope s_law_text, fun K => []⟩, ⟨fun K => (He.ga K "_law_window_net"), "_law_window_net", "_law_window_net", defArgs s_law_window_net, defBody s_law_window_net, defScope s_law_window_net, fun K => []⟩, ⟨fun K => (He.ga K "_law_root"), "_law_root", "_law_root", defArgs s_law_root, defBody s_law_root, defScope s_law_root, fun K => []⟩, ⟨fun K => (He.ga K "_law_same_ring"), "_law_same_ring", "_law_same_ring", defArgs s_law_same_ring, defBody s_law_same_ring, defScope s_law_same_ring, fun K => []⟩, ⟨fun K => (He.ga K "_law_due"), "_law_due", "_law_due", defArgs s_law_due, defBody s_law_due, defScope s_law_due, fun K => []⟩, ⟨fun K => (He.ga K "_law_refused"), "_law_refused", "_law_refused", defArgs s_law_refused, defBody s_law_refused, defScope s_law_refused, fun K => []⟩, ⟨fun K => (He.ga K "_law_all_alike"), "_law_all_alike", "_law_all_alike", defArgs s_law_all_alike, defBody s_law_all_alike, defScope s_law_all_alike, fun K => []⟩, ⟨fun K => (He.ga K "law"), "law", "law", defArgs s_law, defBody s_law, defScope s_law, fun K => []⟩, ⟨fun K => (He.ma K (He.ga K "BadName") "__init__"), "__init__", "BadName.__init__", defArgs s_BadName___init, defBody s_BadName___init, defScope s_BadName___init, fun K => []⟩]
def dfs1 : List Df := [⟨fun K => (He.ma K (He.ga K "NameTaken") "__init__"), "__init__", "NameTaken.__init__", defArgs s_NameTaken___init, defBody s_NameTaken___init, defScope s_NameTaken___init, fun K => []⟩, ⟨fun K => (He.ma K (He.ga K "NoPost") "__init__"), "__init__", "NoPost.__init__", defArgs s_NoPost___init, defBody s_NoPost___init, defScope s_NoPost___init, fun K => []⟩, ⟨fun K => (He.ma K (He.ga K "BadNumber") "__init__"), "__init__", "BadNumber.__init__", defArgs s_BadNumber___init, defBody s_BadNumber___init, defScope s_BadNumber___init, fun K => []⟩, ⟨fun K => (He.ma K (He.ga K "BadWord") "__init__"), "__init__", "BadWord.__init__", defArgs s_BadWord___init, defBody s_BadWord___init, defScope s_BadWord___init, fun K => []⟩]
abbrev dfs : List Df := dfs0 ++ dfs1
def names0 : List Str := ["_wall", "ShowError", "BadName", "NameTaken", "NoPost", "NoLane", "Clash", "EmptyWalk", "BadNumber", "BadWord", "LETTERS", "DIGITS", "LONGEST", "is_name", "is_whole", "first_missing", "Net", "made_of_both", "is_within", "is_text", "windows_in_turn", "checked_windows", "windows", "window_net", "known_by", "_law_cell", "_law_pool", "_law_take", "_law_mixed", "_law_ends"]
def names1 : List Str := ["_law_ways", "_law_hidden", "_law_windows", "_law_text", "_law_window_net", "_law_root", "_law_same_ring", "_law_due", "_law_refused", "_law_all_alike"]
abbrev names : List Str := names0 ++ names1
abbrev R : PySem.W.OpenRow := PySem.W.OpenLaw.row PySem.Challenge.rw_alsoshown_k61_known_by_windows
abbrev qv : Program := view R.prog [45]
def rts0 : List Str := ["is_name", "is_whole", "Net", "is_text", "windows_in_turn", "checked_windows", "windows", "window_net", "known_by", "_law_cell", "_law_pool", "_law_take", "_law_mixed", "_law_ends", "_law_ways", "_law_hidden", "_law_windows", "_law_text", "_law_window_net", "_law_root", "_law_same_ring", "_law_due", "_law_refused", "_law_all_alike", "law", "BadName", "NameTaken", "NoPost", "BadNumber", "BadWord"]
def rts1 : List Str := ["LETTERS", "LONGEST", "DIGITS", "EmptyWalk"]
abbrev rts : List Str := rts0 ++ rts1
abbrev hk : PySem.W.Hook := hookZ 5 rts exs dfs
def ob (s : PySem.W.SharedT) : AlY := obsZG 5 rts exs dfs (HandSHeadRun.getT s)
theorem ob_eq (s : PySem.W.SharedT) : ob s = hk.obs s.abs := obsZG_eq (HandSHeadRun.getT_eq s)
theorem seen0 (w : World) : SeenEq R qv 14000 names (w.withFollow "special-get-raises" false) := by
  intro os
  kernel_rfl
theorem fact0a (w : World) : FactEq R 5 rts (exs0 ++ exs1 ++ exs2) (dfs0 ++ dfs1) 14000 (w.withFollow "special-get-raises" false) := by
  intro os
  kernel_rfl
theorem run0 (w : World) : HandSHeadRun.RunEq R qv (hookZ 5 rts (exs0 ++ exs1 ++ exs2) (dfs0 ++ dfs1)) (fun s => obsZG 5 rts (exs0 ++ exs1 ++ exs2) (dfs0 ++ dfs1) (HandSHeadRun.getT s)) 14000 names (w.withFollow "special-get-raises" false) := by
  have h := fact0a w
  simp only [List.append_assoc, List.append_nil, List.nil_append] at h
  refine runEq_of (seen0 w) ?_
  simp only [List.append_assoc, List.append_nil, List.nil_append]
  exact h
theorem seen1 (w : World) : SeenEq R qv 14000 names (w.withFollow "special-get-raises" true) := by
  intro os
  kernel_rfl
theorem fact1a (w : World) : FactEq R 5 rts (exs0 ++ exs1 ++ exs2) (dfs0 ++ dfs1) 14000 (w.withFollow "special-get-raises" true) := by
  intro os
  kernel_rfl
theorem run1 (w : World) : HandSHeadRun.RunEq R qv (hookZ 5 rts (exs0 ++ exs1 ++ exs2) (dfs0 ++ dfs1)) (fun s => obsZG 5 rts (exs0 ++ exs1 ++ exs2) (dfs0 ++ dfs1) (HandSHeadRun.getT s)) 14000 names (w.withFollow "special-get-raises" true) := by
  have h := fact1a w
  simp only [List.append_assoc, List.append_nil, List.nil_append] at h
  refine runEq_of (seen1 w) ?_
  simp only [List.append_assoc, List.append_nil, List.nil_append]
  exact h
theorem run (w : World) : HandSHeadRun.RunEq R qv hk ob 14000 names w := PySem.W.byRow2 "special-get-raises" (P := fun w => HandSHeadRun.RunEq R qv hk ob 14000 names w) run0 run1 w
end K61

/-! DA: a logic of data over the readings: frozen data, views, cells (own work). -/
namespace DL
open PySem L2

/-- data -/
inductive D where
  | non | bl (b : Bool) | int (i : Int) | str (s : Str)
  | tup (xs : List D) | lst (xs : List D) | dic (kvs : List (Key × D)) | dit (kvs : List (List Key × D))
  | ins (C : Addr) (fs : List (Str × D)) | ty (n : String) | adr (a : Addr)
  | din (w : World) (kvs : List (NestedKey × D))

/-! ### dicts whose keys are tuples of any depth -/
/-- an entry as it lies in the dict's object -/
def entN (w : World) (q : NestedKey × Addr × Value) : DictEntry := ⟨q.1.hash w, .ref q.2.1, q.2.2⟩
/-- the dict at a: its keys (each at its address), its values -/
def DnO (w : World) (a : Addr) (xs : List (NestedKey × Addr × V)) : HO := .ext fun h => xs.length ≤ sizeLine ∧ (a == sysModules) = false ∧ ∃ qs : List (NestedKey × Addr × Value),
  Paired (fun p q => p.1 = q.1 ∧ p.2.1 = q.2.1 ∧ RelV p.2.2 q.2.2) xs qs ∧ ∃ o es ep, h.get? a = some o ∧ o.ExactDict ∧ o.data = .dict es ep ∧ es.toList = qs.map (entN w) ∧ (qs.map (·.1)).Nodup
mutual
/-- a thing that is the key -/
def RkN (K : PySem.W.Frag) (F : Hp) : NestedKey → V → Prop
  | .none, v => v = .non
  | .num i, v => v = .int i
  | .text s, v => v = .str s
  | .tup ks, v => ∃ a xs, v = .ref a ∧ SqT K F a xs ∧ RkL K F ks xs
def RkL (K : PySem.W.Frag) (F : Hp) : List NestedKey → List V → Prop
  | [], xs => xs = []
  | k :: ks, xs => ∃ x ys, xs = x :: ys ∧ RkN K F k x ∧ RkL K F ks ys
end

mutual
def Rp (K : PySem.W.Frag) (F : Hp) : D → V → Prop
  | .non, v => v = .non
  | .bl b, v => v = .bl b
  | .int i, v => v = .int i
  | .str s, v => v = .str s
  | .ty n, v => v = .ty n
  | .adr a, v => v = .ref a
  | .tup ds, v => ∃ a xs, v = .ref a ∧ SqT K F a xs ∧ RpL K F ds xs
  | .lst ds, v => ∃ a xs, v = .ref a ∧ Rd F a (.lst xs) ∧ RpL K F ds xs
  | .dic ds, v => ∃ a xs, v = .ref a ∧ Rd F a (.dK xs) ∧ RpK K F ds xs
  | .dit ds, v => ∃ a xs, v = .ref a ∧ Rd F a (.dT xs) ∧ RpT K F ds xs
  | .ins C ds, v => ∃ a dx xs, v = .ref a ∧ Rd F a (.ins C dx xs) ∧ RpF K F ds xs
  | .din w ds, v => ∃ a xs, v = .ref a ∧ Rd F a (DnO w a xs) ∧ RpN K F ds xs
def RpN (K : PySem.W.Frag) (F : Hp) : List (NestedKey × D) → List (NestedKey × Addr × V) → Prop
  | [], xs => xs = []
  | (k, d) :: ds, xs => ∃ b x ys, xs = (k, b, x) :: ys ∧ (RkN K F k (.ref b) ∧ k.depth ≤ 8) ∧ Rp K F d x ∧ RpN K F ds ys
def RpL (K : PySem.W.Frag) (F : Hp) : List D → List V → Prop
  | [], xs => xs = []
  | d :: ds, xs => ∃ x ys, xs = x :: ys ∧ Rp K F d x ∧ RpL K F ds ys
def RpK (K : PySem.W.Frag) (F : Hp) : List (Key × D) → List (Key × V) → Prop
  | [], xs => xs = []
  | (k, d) :: ds, xs => ∃ x ys, xs = (k, x) :: ys ∧ Rp K F d x ∧ RpK K F ds ys
def RpT (K : PySem.W.Frag) (F : Hp) : List (List Key × D) → List (List Key × V) → Prop
  | [], xs => xs = []
  | (k, d) :: ds, xs => ∃ x ys, xs = (k, x) :: ys ∧ Rp K F d x ∧ RpT K F ds ys
def RpF (K : PySem.W.Frag) (F : Hp) : List (Str × D) → List (Str × V) → Prop
  | [], xs => xs = []
  | (k, d) :: ds, xs => ∃ x ys, xs = (k, x) :: ys ∧ Rp K F d x ∧ RpF K F ds ys
end


def isfz : HO → Bool
  | .frz _ _ => true
  | _ => false
/-- nothing of F is locked -/
def Nz (F : Hp) : Prop := ∀ a u, F a = some u → isfz u = false
/-- what a loop may lock -/
def lk : HO → Bool
  | .dK _ => true
  | .dT _ => true
  | .lst _ => true
  | .ext _ => true
  | _ => false
/-- all that F says may be read in H -/
def Exz (F H : Hp) : Prop := ∀ a u, F a = some u → H a = some u ∨ (lk u = true ∧ ∃ o, H a = some (.frz o u))
theorem exz_rd {F H : Hp} (e : Exz F H) {a : Addr} {u : HO} (h : F a = some u) : Rd H a u := by
  rcases e a u h with q | ⟨_, o, q⟩
  · exact .inl q
  · exact .inr ⟨o, q⟩
/-- what is never locked stands as it is -/
theorem Exz.at {F H : Hp} (e : Exz F H) {a : Addr} {u : HO} (h : F a = some u) (k : lk u = false) : H a = some u := by
  rcases e a u h with q | ⟨k2, _⟩
  · exact q
  · rw [k] at k2
    cases k2
/-- all of B stands in H as it is -/
def Sub (B H : Hp) : Prop := ∀ a o, B a = some o → H a = some o
theorem Sub.refl (H : Hp) : Sub H H := fun _ _ h => h
theorem Sub.trans {F G H : Hp} (a : Sub F G) (b : Sub G H) : Sub F H := fun x u h => b x u (a x u h)
theorem Sub.exz {B H : Hp} (e : Sub B H) : Exz B H := fun a u h => .inl (e _ _ h)
theorem Sub.new {H : Hp} {p : Addr} {o : HO} (h : H p = none) : Sub H (upd H p o) := fun a u e => by
  rw [upd_ne (ne_of_none e h)]
  exact e
theorem Sub.free {F H : Hp} (e : Sub F H) {a : Addr} (h : H a = none) : F a = none := by
  cases q : F a with
  | none => rfl
  | some o =>
    rw [e a o q] at h
    cases h
theorem rd_ne {H : Hp} {a : Addr} {u : HO} (h : Rd H a u) : H a ≠ none := by
  rcases h with h | ⟨o, h⟩ <;> rw [h] <;> exact fun q => by cases q
theorem Exz.free {F H : Hp} (e : Exz F H) {a : Addr} (h : H a = none) : F a = none := by
  cases q : F a with
  | none => rfl
  | some o => exact absurd h (rd_ne (exz_rd e q))
theorem Exz.rd {F H : Hp} (e : Exz F H) (n : Nz F) {a : Addr} {u : HO} (h : Rd F a u) : Rd H a u := by
  rcases h with h | ⟨o, h⟩
  · exact exz_rd e h
  · have := n a _ h
    cases this
theorem Exz.sub {F G H : Hp} (a : Exz F G) (b : Sub G H) : Exz F H := fun x u h => by
  rcases a x u h with q | ⟨k, o, q⟩
  · exact .inl (b _ _ q)
  · exact .inr ⟨k, o, b _ _ q⟩
theorem sqT_mono {K : PySem.W.Frag} {F H : Hp} {a : Addr} {xs : List V} (e : Exz F H) (n : Nz F) (h : SqT K F a xs) : SqT K H a xs := by
  rcases h with h | h
  · exact .inl (e.rd n h)
  · exact .inr h
section
variable {K : PySem.W.Frag} {F G : Hp}
mutual
theorem RkN.mono (e : Exz F G) (n : Nz F) : ∀ (k : NestedKey) (v : V), RkN K F k v → RkN K G k v
  | .none, _, h => h
  | .num _, _, h => h
  | .text _, _, h => h
  | .tup ks, v, h => by
    obtain ⟨a, xs, e1, h1, h2⟩ := h
    exact ⟨a, xs, e1, sqT_mono e n h1, RkL.mono e n ks xs h2⟩
theorem RkL.mono (e : Exz F G) (n : Nz F) : ∀ (ks : List NestedKey) (xs : List V), RkL K F ks xs → RkL K G ks xs
  | [], _, h => h
  | k :: ks, xs, h => by
    obtain ⟨x, ys, e1, h1, h2⟩ := h
    exact ⟨x, ys, e1, RkN.mono e n k x h1, RkL.mono e n ks ys h2⟩
end
mutual
theorem Rp.mono (e : Exz F G) (n : Nz F) : ∀ (d : D) (v : V), Rp K F d v → Rp K G d v
  | .non, _, h => h
  | .bl _, _, h => h
  | .int _, _, h => h
  | .str _, _, h => h
  | .ty _, _, h => h
  | .adr _, _, h => h
  | .tup ds, v, h => by
    obtain ⟨a, xs, e1, h1, h2⟩ := h
    exact ⟨a, xs, e1, sqT_mono e n h1, RpL.mono e n ds xs h2⟩
  | .lst ds, v, h => by
    obtain ⟨a, xs, e1, h1, h2⟩ := h
    exact ⟨a, xs, e1, e.rd n h1, RpL.mono e n ds xs h2⟩
  | .dic ds, v, h => by
    obtain ⟨a, xs, e1, h1, h2⟩ := h
    exact ⟨a, xs, e1, e.rd n h1, RpK.mono e n ds xs h2⟩
  | .dit ds, v, h => by
    obtain ⟨a, xs, e1, h1, h2⟩ := h
    exact ⟨a, xs, e1, e.rd n h1, RpT.mono e n ds xs h2⟩
  | .ins C ds, v, h => by
    obtain ⟨a, dx, xs, e1, h1, h2⟩ := h
    exact ⟨a, dx, xs, e1, e.rd n h1, RpF.mono e n ds xs h2⟩
  | .din w ds, v, h => by
    obtain ⟨a, xs, e1, h1, h2⟩ := h
    exact ⟨a, xs, e1, e.rd n h1, RpN.mono e n ds xs h2⟩
theorem RpN.mono (e : Exz F G) (n : Nz F) : ∀ (ds : List (NestedKey × D)) (xs : List (NestedKey × Addr × V)), RpN K F ds xs → RpN K G ds xs
  | [], _, h => h
  | (k, d) :: ds, xs, h => by
    obtain ⟨b, x, ys, e1, h0, h1, h2⟩ := h
    exact ⟨b, x, ys, e1, ⟨RkN.mono e n k _ h0.1, h0.2⟩, Rp.mono e n d x h1, RpN.mono e n ds ys h2⟩
theorem RpL.mono (e : Exz F G) (n : Nz F) : ∀ (ds : List D) (xs : List V), RpL K F ds xs → RpL K G ds xs
  | [], _, h => h
  | d :: ds, xs, h => by
    obtain ⟨x, ys, e1, h1, h2⟩ := h
    exact ⟨x, ys, e1, Rp.mono e n d x h1, RpL.mono e n ds ys h2⟩
theorem RpK.mono (e : Exz F G) (n : Nz F) : ∀ (ds : List (Key × D)) (xs : List (Key × V)), RpK K F ds xs → RpK K G ds xs
  | [], _, h => h
  | (k, d) :: ds, xs, h => by
    obtain ⟨x, ys, e1, h1, h2⟩ := h
    exact ⟨x, ys, e1, Rp.mono e n d x h1, RpK.mono e n ds ys h2⟩
theorem RpT.mono (e : Exz F G) (n : Nz F) : ∀ (ds : List (List Key × D)) (xs : List (List Key × V)), RpT K F ds xs → RpT K G ds xs
  | [], _, h => h
  | (k, d) :: ds, xs, h => by
    obtain ⟨x, ys, e1, h1, h2⟩ := h
    exact ⟨x, ys, e1, Rp.mono e n d x h1, RpT.mono e n ds ys h2⟩
theorem RpF.mono (e : Exz F G) (n : Nz F) : ∀ (ds : List (Str × D)) (xs : List (Str × V)), RpF K F ds xs → RpF K G ds xs
  | [], _, h => h
  | (k, d) :: ds, xs, h => by
    obtain ⟨x, ys, e1, h1, h2⟩ := h
    exact ⟨x, ys, e1, Rp.mono e n d x h1, RpF.mono e n ds ys h2⟩
end
end

/-! ### worlds -/
/-- what may be read of B and F together -/
def uni (B F : Hp) : Hp := fun a => match F a with
  | some o => some o
  | none => match B a with
    | some (.frz _ u) => if lk u then some u else none
    | x => x
inductive W where
  | val (d : D) | vw (d : D)
def WOk (K : PySem.W.Frag) (B F : Hp) (v : V) : W → Prop
  | .val d => Rp K F d v
  | .vw d => Rp K (uni B F) d v
inductive Nd where
  | lst (ds : List D) | dic (ds : List (Key × D)) | dit (ds : List (List Key × D)) | ldic (o : Obj) (xs : List (Key × V)) (ds : List (Key × D)) | ins (C : Addr) (ds : List (Str × D)) | xd (ds : List (Str × D))
  | din (w : World) (ds : List (NestedKey × D))
def NdOk (K : PySem.W.Frag) (F H : Hp) (a : Addr) : Nd → Prop
  | .lst ds => ∃ xs, H a = some (.lst xs) ∧ RpL K F ds xs
  | .dic ds => ∃ xs, H a = some (.dK xs) ∧ RpK K F ds xs
  | .dit ds => ∃ xs, H a = some (.dT xs) ∧ RpT K F ds xs
  | .ldic o xs ds => H a = some (.frz o (.dK xs)) ∧ RpK K F ds xs
  | .ins C ds => ∃ dx xs, H a = some (.ins C dx xs) ∧ RpF K F ds xs
  | .xd ds => ∃ xs, H a = some (.xd xs) ∧ RpF K F ds xs
  | .din w ds => ∃ xs, H a = some (DnO w a xs) ∧ RpN K F ds xs
abbrev Cells := List (Addr × Nd)
/-- F has grown, off B -/
structure Gr (B F F' : Hp) : Prop where
  sub : Sub F F'
  off : ∀ a, F a = none → B a ≠ none → F' a = none
theorem Gr.refl (B F : Hp) : Gr B F F := ⟨Sub.refl F, fun _ h _ => h⟩
theorem Gr.trans {B F G H : Hp} (a : Gr B F G) (b : Gr B G H) : Gr B F H := ⟨a.sub.trans b.sub, fun x h n => b.off x (a.off x h n) n⟩
/-- the state by data, over the frozen F: the slots, the cells, what is held on the way -/
structure EnF (K : PySem.W.Frag) (B F : Hp) (ro : List (Option W)) (ka : Cells) (ta : List (V × W)) (sg : L2.St) (H : Hp) : Prop where
  nz : Nz F
  fz : Exz F H
  fr : Sub B H
  nd : (ka.map (·.1)).Nodup
  ce : ∀ p ∈ ka, F p.1 = none ∧ B p.1 = none ∧ NdOk K F H p.1 p.2
  ln : sg.length = ro.length
  sl : ∀ (i : Nat) (w : W), ro[i]? = some (some w) → ∃ v, sg[i]? = some (some v) ∧ WOk K B F v w
  tm : ∀ p ∈ ta, WOk K B F p.1 p.2
def En (K : PySem.W.Frag) (B F0 : Hp) (ro : List (Option W)) (ka : Cells) (ta : List (V × W)) (sg : L2.St) (H : Hp) : Prop :=
  ∃ F, Gr B F0 F ∧ EnF K B F ro ka ta sg H

theorem uni_nz {B F : Hp} (n : Nz F) : Nz (uni B F) := fun a u h => by
  unfold uni at h
  split at h
  · rename_i o q
    exact n a u (q.trans h)
  · split at h
    · rename_i ob x q
      split at h
      · rename_i hx
        cases h
        cases u <;> first | rfl | cases hx
      · cases h
    · rename_i x q
      cases u with
      | frz ob z => exact absurd h (q ob z)
      | _ => rfl
theorem uni_exz {B F H : Hp} (fz : Exz F H) (fr : Sub B H) : Exz (uni B F) H := fun a u h => by
  unfold uni at h
  split at h
  · rename_i o q
    exact fz a u (q.trans h)
  · split at h
    · rename_i ob x q
      split at h
      · rename_i hx
        cases h
        exact .inr ⟨hx, ob, fr _ _ q⟩
      · cases h
    · exact .inl (fr _ _ h)
theorem uni_of {B F : Hp} {a : Addr} {u : HO} (h : F a = some u) : uni B F a = some u := by
  unfold uni
  rw [h]
theorem uni_sub {B F : Hp} : Sub F (uni B F) := fun _ _ h => uni_of h
theorem uni_gr {B F F' : Hp} (g : Gr B F F') : Sub (uni B F) (uni B F') := fun a u h => by
  unfold uni at h ⊢
  cases q : F a with
  | some o =>
    rw [q] at h
    rw [g.sub a o q]
    exact h
  | none =>
    rw [q] at h
    have hb : B a ≠ none := fun z => by
      rw [z] at h
      cases h
    rw [g.off a q hb]
    exact h
theorem wok_gr {K : PySem.W.Frag} {B F F' : Hp} (n : Nz F) (g : Gr B F F') {v : V} {w : W} (h : WOk K B F v w) : WOk K B F' v w := by
  cases w with
  | val d => exact Rp.mono g.sub.exz n d v h
  | vw d => exact Rp.mono (uni_gr g).exz (uni_nz n) d v h
/-- frozen data may be viewed -/
theorem wok_vw {K : PySem.W.Frag} {B F : Hp} (n : Nz F) {v : V} {d : D} (h : WOk K B F v (.val d)) : WOk K B F v (.vw d) := Rp.mono uni_sub.exz n d v h
theorem ndok_gr {K : PySem.W.Frag} {B F F' H : Hp} (n : Nz F) (g : Gr B F F') {a : Addr} {x : Nd} (h : NdOk K F H a x) : NdOk K F' H a x := by
  cases x with
  | lst ds => obtain ⟨xs, e, r⟩ := h; exact ⟨xs, e, RpL.mono g.sub.exz n _ _ r⟩
  | dic ds => obtain ⟨xs, e, r⟩ := h; exact ⟨xs, e, RpK.mono g.sub.exz n _ _ r⟩
  | dit ds => obtain ⟨xs, e, r⟩ := h; exact ⟨xs, e, RpT.mono g.sub.exz n _ _ r⟩
  | ldic o xs ds => obtain ⟨e, r⟩ := h; exact ⟨e, RpK.mono g.sub.exz n _ _ r⟩
  | ins C ds => obtain ⟨dx, xs, e, r⟩ := h; exact ⟨dx, xs, e, RpF.mono g.sub.exz n _ _ r⟩
  | xd ds => obtain ⟨xs, e, r⟩ := h; exact ⟨xs, e, RpF.mono g.sub.exz n _ _ r⟩
  | din w ds => obtain ⟨xs, e, r⟩ := h; exact ⟨xs, e, RpN.mono g.sub.exz n _ _ r⟩
/-- the address where a node stands is taken -/
theorem ndok_ne {K : PySem.W.Frag} {F H : Hp} {a : Addr} {x : Nd} (h : NdOk K F H a x) : H a ≠ none := by
  cases x with
  | lst ds => obtain ⟨xs, e, r⟩ := h; rw [e]; exact fun q => by cases q
  | dic ds => obtain ⟨xs, e, r⟩ := h; rw [e]; exact fun q => by cases q
  | dit ds => obtain ⟨xs, e, r⟩ := h; rw [e]; exact fun q => by cases q
  | ldic o xs ds => obtain ⟨e, r⟩ := h; rw [e]; exact fun q => by cases q
  | ins C ds => obtain ⟨dx, xs, e, r⟩ := h; rw [e]; exact fun q => by cases q
  | xd ds => obtain ⟨xs, e, r⟩ := h; rw [e]; exact fun q => by cases q
  | din w ds => obtain ⟨xs, e, r⟩ := h; rw [e]; exact fun q => by cases q
theorem ndok_at {K : PySem.W.Frag} {F H H' : Hp} {a : Addr} {x : Nd} (e : H' a = H a) (h : NdOk K F H a x) : NdOk K F H' a x := by
  cases x with
  | lst ds => obtain ⟨xs, q, r⟩ := h; exact ⟨xs, e.trans q, r⟩
  | dic ds => obtain ⟨xs, q, r⟩ := h; exact ⟨xs, e.trans q, r⟩
  | dit ds => obtain ⟨xs, q, r⟩ := h; exact ⟨xs, e.trans q, r⟩
  | ldic o xs ds => obtain ⟨q, r⟩ := h; exact ⟨e.trans q, r⟩
  | ins C ds => obtain ⟨dx, xs, q, r⟩ := h; exact ⟨dx, xs, e.trans q, r⟩
  | xd ds => obtain ⟨xs, q, r⟩ := h; exact ⟨xs, e.trans q, r⟩
  | din w ds => obtain ⟨xs, q, r⟩ := h; exact ⟨xs, e.trans q, r⟩
section
variable {K : PySem.W.Frag} {B F F' F0 : Hp} {ro : List (Option W)} {ka : Cells} {ta : List (V × W)} {sg : L2.St} {H : Hp}
/-- a new object is laid as frozen data -/
theorem EnF.lay (e : EnF K B F ro ka ta sg H) {p : Addr} {o : HO} (hp : H p = none) (hn : isfz o = false) : EnF K B (upd F p o) ro ka ta sg (upd H p o) ∧ Gr B F (upd F p o) := by
  have fp : F p = none := e.fz.free hp
  have bp : B p = none := e.fr.free hp
  have g : Gr B F (upd F p o) := ⟨Sub.new fp, fun a h1 h2 => by
    have ne : a ≠ p := fun q => h2 (q ▸ bp)
    rw [upd_ne ne]
    exact h1⟩
  refine ⟨⟨fun a u h => ?_, fun a u h => ?_, fun a u h => ?_, e.nd, fun q hq => ?_, e.ln, fun i w h => ?_, fun q hq => wok_gr e.nz g (e.tm q hq)⟩, g⟩
  · by_cases ha : a = p
    · subst ha; rw [upd_same] at h; cases h; exact hn
    · rw [upd_ne ha] at h; exact e.nz a u h
  · by_cases ha : a = p
    · subst ha; rw [upd_same] at h; cases h; exact .inl upd_same
    · rw [upd_ne ha] at h; exact e.fz.sub (Sub.new hp) a u h
  · have ha : a ≠ p := ne_of_none h bp
    rw [upd_ne ha]; exact e.fr a u h
  · obtain ⟨h1, h2, h3⟩ := e.ce q hq
    have nq : q.1 ≠ p := fun z => ndok_ne h3 (z ▸ hp)
    refine ⟨by rw [upd_ne nq]; exact h1, h2, ndok_at (upd_ne nq) (ndok_gr e.nz g h3)⟩
  · obtain ⟨v, h1, h2⟩ := e.sl i w h
    exact ⟨v, h1, wok_gr e.nz g h2⟩
/-- a new object is laid as a cell -/
theorem EnF.cell (e : EnF K B F ro ka ta sg H) {p : Addr} {o : HO} (hp : H p = none) {n : Nd} (hn : NdOk K F (upd H p o) p n) : EnF K B F ro (ka ++ [(p, n)]) ta sg (upd H p o) := by
  refine ⟨e.nz, e.fz.sub (Sub.new hp), e.fr.trans (Sub.new hp), ?_, fun q hq => ?_, e.ln, e.sl, e.tm⟩
  · rw [List.map_append, List.nodup_append]
    refine ⟨e.nd, by simp, fun a ha b hb => ?_⟩
    obtain ⟨q, hq, rfl⟩ := List.mem_map.mp ha
    simp at hb
    subst hb
    exact fun z => ndok_ne (e.ce q hq).2.2 (z ▸ hp)
  · rcases List.mem_append.mp hq with hq | hq
    · obtain ⟨h1, h2, h3⟩ := e.ce q hq
      have nq : q.1 ≠ p := fun z => ndok_ne h3 (z ▸ hp)
      exact ⟨h1, h2, ndok_at (upd_ne nq) h3⟩
    · simp at hq
      subst hq
      exact ⟨e.fz.free hp, e.fr.free hp, hn⟩
theorem EnF.push (e : EnF K B F ro ka ta sg H) {v : V} {w : W} (h : WOk K B F v w) : EnF K B F ro ka ((v, w) :: ta) sg H :=
  ⟨e.nz, e.fz, e.fr, e.nd, e.ce, e.ln, e.sl, fun p hp => (List.mem_cons.mp hp).elim (fun z => z ▸ h) (e.tm p)⟩
theorem EnF.held (e : EnF K B F ro ka ta sg H) {ta' : List (V × W)} (h : ∀ p ∈ ta', p ∈ ta) : EnF K B F ro ka ta' sg H :=
  ⟨e.nz, e.fz, e.fr, e.nd, e.ce, e.ln, e.sl, fun p hp => e.tm p (h p hp)⟩
/-- a slot is set -/
theorem EnF.set (e : EnF K B F ro ka ta sg H) {v : V} {w : W} (h : WOk K B F v w) (i : Nat) : EnF K B F (ro.set i (some w)) ka ta (sg.set i (some v)) H := by
  refine ⟨e.nz, e.fz, e.fr, e.nd, e.ce, by rw [List.length_set, List.length_set, e.ln], fun j w' hj => ?_, e.tm⟩
  by_cases hij : i = j
  · subst hij
    have hi : i < ro.length := by
      have := (List.getElem?_eq_some_iff.mp hj).1
      rwa [List.length_set] at this
    rw [List.getElem?_set_self hi] at hj
    cases hj
    exact ⟨v, by rw [List.getElem?_set_self (by rw [e.ln]; exact hi)], h⟩
  · rw [List.getElem?_set_ne hij] at hj ⊢
    exact e.sl j w' hj
/-- slots are forgotten -/
theorem EnF.forget (e : EnF K B F ro ka ta sg H) {ro' : List (Option W)} (hl : ro'.length = ro.length) (h : ∀ (i : Nat) w, ro'[i]? = some (some w) → ro[i]? = some (some w)) : EnF K B F ro' ka ta sg H :=
  ⟨e.nz, e.fz, e.fr, e.nd, e.ce, e.ln.trans hl.symm, fun i w q => e.sl i w (h i w q), e.tm⟩
/-- another frame: its slots -/
theorem EnF.frame (e : EnF K B F ro ka ta sg H) {ro' : List (Option W)} {sg' : L2.St} (hl : sg'.length = ro'.length) (h : ∀ (i : Nat) w, ro'[i]? = some (some w) → ∃ v, sg'[i]? = some (some v) ∧ WOk K B F v w) : EnF K B F ro' ka ta sg' H :=
  ⟨e.nz, e.fz, e.fr, e.nd, e.ce, hl, h, e.tm⟩
/-- cells in another order, some forgotten -/
theorem EnF.cells (e : EnF K B F ro ka ta sg H) {ka' : Cells} (hs : ka'.Sublist ka) : EnF K B F ro ka' ta sg H :=
  ⟨e.nz, e.fz, e.fr, (hs.map _).nodup e.nd, fun p hp => e.ce p (hs.subset hp), e.ln, e.sl, e.tm⟩
theorem EnF.perm (e : EnF K B F ro ka ta sg H) {ka' : Cells} (hs : ka'.Perm ka) : EnF K B F ro ka' ta sg H :=
  ⟨e.nz, e.fz, e.fr, (hs.map _).nodup_iff.mpr e.nd, fun p hp => e.ce p (hs.subset hp), e.ln, e.sl, e.tm⟩
/-- a cell is written -/
theorem EnF.write (e : EnF K B F ro ka ta sg H) {j : Nat} {p : Addr} {n n' : Nd} {o : HO} (hj : ka[j]? = some (p, n)) (hn : NdOk K F (upd H p o) p n') : EnF K B F ro (ka.set j (p, n')) ta sg (upd H p o) := by
  have hjl := (List.getElem?_eq_some_iff.mp hj).1
  have hm : (p, n) ∈ ka := List.mem_of_getElem? hj
  obtain ⟨fp, bp, _⟩ := e.ce _ hm
  have em : (ka.set j (p, n')).map (·.1) = ka.map (·.1) := by
    apply List.ext_getElem?
    intro i
    rw [List.getElem?_map, List.getElem?_map]
    by_cases hij : j = i
    · subst hij
      rw [List.getElem?_set_self hjl, hj]
      rfl
    · rw [List.getElem?_set_ne hij]
  refine ⟨e.nz, fun a u h => ?_, fun a u h => ?_, by rw [em]; exact e.nd, fun q hq => ?_, e.ln, e.sl, e.tm⟩
  · have ha : a ≠ p := ne_of_none h fp
    rcases e.fz a u h with q | ⟨k, ob, q⟩
    · exact .inl (by rw [upd_ne ha]; exact q)
    · exact .inr ⟨k, ob, by rw [upd_ne ha]; exact q⟩
  · have ha : a ≠ p := ne_of_none h bp
    rw [upd_ne ha]
    exact e.fr a u h
  · obtain ⟨i, hi⟩ := List.getElem?_of_mem hq
    by_cases hij : j = i
    · subst hij
      rw [List.getElem?_set_self hjl] at hi
      cases hi
      exact ⟨fp, bp, hn⟩
    · rw [List.getElem?_set_ne hij] at hi
      obtain ⟨h1, h2, h3⟩ := e.ce q (List.mem_of_getElem? hi)
      have nq : q.1 ≠ p := fun z => by
        have h4 : (ka.map (·.1))[i]? = some p := by rw [List.getElem?_map, hi]; simp [z]
        have h5 : (ka.map (·.1))[j]? = some p := by rw [List.getElem?_map, hj]; rfl
        obtain ⟨l1, e1⟩ := List.getElem?_eq_some_iff.mp h4
        obtain ⟨l2, e2⟩ := List.getElem?_eq_some_iff.mp h5
        exact hij ((List.getElem_inj e.nd).mp (e2.trans e1.symm))
      exact ⟨h1, h2, ndok_at (upd_ne nq) h3⟩
end
end DL

/-! DB: what expressions evaluate to, by data (own work). -/
namespace DL
open PySem L2

/-! ### judgements -/
section
variable (K : PySem.W.Frag)
abbrev Ro := List (Option W)
def EvD (te : TE) (ro : Ro) (ka : Cells) (w : W) (ka' : Cells) : Prop := ∀ B F0 ta sg H (Q : VK), En K B F0 ro ka ta sg H → (∀ v H', En K B F0 ro ka' ((v, w) :: ta) sg H' → Q v H') → te sg H Q
/-- a new cell -/
def EvN (te : TE) (ro : Ro) (ka : Cells) (n : Nd) (ka' : Cells) : Prop := ∀ B F0 ta sg H (Q : VK), En K B F0 ro ka ta sg H → (∀ a H', En K B F0 ro (ka' ++ [(a, n)]) ta sg H' → Q (.ref a) H') → te sg H Q
def EvT (tt : TT) (ro : Ro) (ka : Cells) (b : Bool) (ka' : Cells) : Prop := ∀ B F0 ta sg H (Q : Bool → Hp → Prop), En K B F0 ro ka ta sg H → (∀ H', En K B F0 ro ka' ta sg H' → Q b H') → tt sg H Q
def EvA (tr : TA) (ro : Ro) (ka : Cells) (ws : List W) (ka' : Cells) : Prop := ∀ B F0 ta sg H (Q : List V → Hp → Prop), En K B F0 ro ka ta sg H → (∀ vs H', vs.length = ws.length → En K B F0 ro ka' (vs.zip ws ++ ta) sg H' → Q vs H') → tr sg H Q
/-- a two-place operation, a one-place one -/
def RvD (r : R2) (ka : Cells) (x y z : W) : Prop := ∀ B F0 ro ta sg H u v (Q : VK), En K B F0 ro ka ta sg H → (u, x) ∈ ta → (v, y) ∈ ta → (∀ t H', En K B F0 ro ka ((t, z) :: ta) sg H' → Q t H') → r u v H Q
def RvN (r : R2) (ka : Cells) (x y : W) (n : Nd) : Prop := ∀ B F0 ro ta sg H u v (Q : VK), En K B F0 ro ka ta sg H → (u, x) ∈ ta → (v, y) ∈ ta → (∀ a H', En K B F0 ro (ka ++ [(a, n)]) ta sg H' → Q (.ref a) H') → r u v H Q
def RuD (r : V → Hp → VK → Prop) (ka : Cells) (x z : W) : Prop := ∀ B F0 ro ta sg H u (Q : VK), En K B F0 ro ka ta sg H → (u, x) ∈ ta → (∀ t H', En K B F0 ro ka ((t, z) :: ta) sg H' → Q t H') → r u H Q
/-- a call by values -/
def RcD (r : List V → Hp → VK → Prop) (ka : Cells) (xs : List W) (z : W) : Prop := ∀ B F0 ro ta sg H us (Q : VK), En K B F0 ro ka ta sg H → us.length = xs.length → (∀ p ∈ us.zip xs, p ∈ ta) → (∀ t H', En K B F0 ro ka ((t, z) :: ta) sg H' → Q t H') → r us H Q
def RcN (r : List V → Hp → VK → Prop) (ka : Cells) (xs : List W) (n : Nd) : Prop := ∀ B F0 ro ta sg H us (Q : VK), En K B F0 ro ka ta sg H → us.length = xs.length → (∀ p ∈ us.zip xs, p ∈ ta) → (∀ a H', En K B F0 ro (ka ++ [(a, n)]) ta sg H' → Q (.ref a) H') → r us H Q
/-- a part of a slice -/
def EvO (to : TO) (ro : Ro) (ka : Cells) (o : Option Int) (ka' : Cells) : Prop := ∀ B F0 ta sg H (Q : Option Int → Hp → Prop), En K B F0 ro ka ta sg H → (∀ H', En K B F0 ro ka' ta sg H' → Q o H') → to sg H Q
end

section
variable {K : PySem.W.Frag} {B F0 : Hp} {ro : Ro} {ka k1 k2 k3 : Cells} {ta : List (V × W)} {sg : L2.St} {H : Hp} {te tf tg : TE} {tt tu : TT} {tr : TA} {w x y z : W} {n : Nd} {r : R2}
theorem En.held (e : En K B F0 ro ka ta sg H) {ta' : List (V × W)} (h : ∀ p ∈ ta', p ∈ ta) : En K B F0 ro ka ta' sg H :=
  let ⟨F, g, q⟩ := e
  ⟨F, g, q.held h⟩
theorem En.pop {p : V × W} (e : En K B F0 ro ka (p :: ta) sg H) : En K B F0 ro ka ta sg H := e.held fun _ h => List.mem_cons_of_mem _ h
/-- what data says of its value -/
theorem En.push_imm (e : En K B F0 ro ka ta sg H) {v : V} {w : W} (h : ∀ F, WOk K B F v w) : En K B F0 ro ka ((v, w) :: ta) sg H :=
  let ⟨F, g, q⟩ := e
  ⟨F, g, q.push (h F)⟩
theorem En.tm_int (e : En K B F0 ro ka ta sg H) {v : V} {i : Int} (h : (v, W.val (.int i)) ∈ ta) : v = .int i := let ⟨_, _, q⟩ := e; q.tm _ h
theorem En.tm_str (e : En K B F0 ro ka ta sg H) {v : V} {i : Str} (h : (v, W.val (.str i)) ∈ ta) : v = .str i := let ⟨_, _, q⟩ := e; q.tm _ h
theorem En.tm_bl (e : En K B F0 ro ka ta sg H) {v : V} {i : Bool} (h : (v, W.val (.bl i)) ∈ ta) : v = .bl i := let ⟨_, _, q⟩ := e; q.tm _ h
theorem En.tm_non (e : En K B F0 ro ka ta sg H) {v : V} (h : (v, W.val .non) ∈ ta) : v = .non := let ⟨_, _, q⟩ := e; q.tm _ h
theorem En.tm_adr (e : En K B F0 ro ka ta sg H) {v : V} {a : Addr} (h : (v, W.val (.adr a)) ∈ ta) : v = .ref a := let ⟨_, _, q⟩ := e; q.tm _ h
theorem En.tm_ty (e : En K B F0 ro ka ta sg H) {v : V} {i : String} (h : (v, W.val (.ty i)) ∈ ta) : v = .ty i := let ⟨_, _, q⟩ := e; q.tm _ h

/-- data that is the value itself -/
def imm : D → Bool
  | .non => true | .bl _ => true | .int _ => true | .str _ => true | .ty _ => true | .adr _ => true
  | _ => false
theorem imm_any {F G : Hp} : ∀ {d : D} {v : V}, imm d = true → Rp K F d v → Rp K G d v
  | .non, _, _, h => h
  | .bl _, _, _, h => h
  | .int _, _, _, h => h
  | .str _, _, _, h => h
  | .ty _, _, _, h => h
  | .adr _, _, _, h => h
/-- a part of something viewed, of something frozen -/
def part (b : Bool) (d : D) : W := if b && !imm d then .vw d else .val d
theorem wok_part {B F : Hp} {v : V} {d : D} (b : Bool) (h : Rp K (if b then uni B F else F) d v) : WOk K B F v (part b d) := by
  unfold part
  cases b with
  | false => exact h
  | true =>
    cases q : imm d with
    | true => exact imm_any q h
    | false => exact h
/-! ### names, constants -/
theorem ev_var {i : Nat} (h : ro[i]? = some (some w)) : EvD K (tVar i) ro ka w ka := fun B F0 ta sg H Q e q => by
  obtain ⟨F, g, e⟩ := e
  obtain ⟨v, h1, h2⟩ := e.sl i w h
  exact ⟨v, h1, q v H ⟨F, g, e.push h2⟩⟩
theorem ev_int {i : Int} : EvD K (tC (.int i)) ro ka (.val (.int i)) ka := fun B F0 ta sg H Q e q => q _ _ (e.push_imm fun _ => rfl)
theorem ev_str {i : Str} : EvD K (tC (.str i)) ro ka (.val (.str i)) ka := fun B F0 ta sg H Q e q => q _ _ (e.push_imm fun _ => rfl)
theorem ev_bl {i : Bool} : EvD K (tC (.bl i)) ro ka (.val (.bl i)) ka := fun B F0 ta sg H Q e q => q _ _ (e.push_imm fun _ => rfl)
theorem ev_non : EvD K (tC .non) ro ka (.val .non) ka := fun B F0 ta sg H Q e q => q _ _ (e.push_imm fun _ => rfl)
theorem ev_ty {a : String} : EvD K (tC (.ty a)) ro ka (.val (.ty a)) ka := fun B F0 ta sg H Q e q => q _ _ (e.push_imm fun _ => rfl)

/-! ### operations -/
theorem ev_op (ha : EvD K te ro ka x k1) (hb : EvD K tf ro k1 y k2) (hr : RvD K r k2 x y z) : EvD K (tOp r te tf) ro ka z k2 := fun B F0 ta sg H Q e q =>
  ha B F0 ta sg H _ e fun u H1 e1 => hb B F0 _ sg H1 _ e1 fun v H2 e2 => hr B F0 ro _ sg H2 u v Q e2 (List.mem_cons_of_mem _ List.mem_cons_self) List.mem_cons_self fun t H3 e3 =>
    q t H3 (e3.held fun p hp => by
      rcases List.mem_cons.mp hp with rfl | hp
      · exact List.mem_cons_self
      · exact List.mem_cons_of_mem _ (List.mem_cons_of_mem _ (List.mem_cons_of_mem _ hp)))
theorem evn_op (ha : EvD K te ro ka x k1) (hb : EvD K tf ro k1 y k2) (hr : RvN K r k2 x y n) : EvN K (tOp r te tf) ro ka n k2 := fun B F0 ta sg H Q e q =>
  ha B F0 ta sg H _ e fun u H1 e1 => hb B F0 _ sg H1 _ e1 fun v H2 e2 => hr B F0 ro _ sg H2 u v Q e2 (List.mem_cons_of_mem _ List.mem_cons_self) List.mem_cons_self fun t H3 e3 =>
    q t H3 (e3.held fun p hp => List.mem_cons_of_mem _ (List.mem_cons_of_mem _ hp))
theorem ev_un {r : V → Hp → VK → Prop} (ha : EvD K te ro ka x k1) (hr : RuD K r k1 x z) : EvD K (tUn r te) ro ka z k1 := fun B F0 ta sg H Q e q =>
  ha B F0 ta sg H _ e fun u H1 e1 => hr B F0 ro _ sg H1 u Q e1 List.mem_cons_self fun t H3 e3 => q t H3 (e3.held fun p hp => by
      rcases List.mem_cons.mp hp with rfl | hp
      · exact List.mem_cons_self
      · exact List.mem_cons_of_mem _ (List.mem_cons_of_mem _ hp))
theorem ea_nil : EvA K tNil ro ka [] ka := fun B F0 ta sg H Q e q => q [] H rfl e
theorem ea_cons (ha : EvD K te ro ka x k1) {ws : List W} (hr : EvA K tr ro k1 ws k2) : EvA K (tCons te tr) ro ka (x :: ws) k2 := fun B F0 ta sg H Q e q =>
  ha B F0 ta sg H _ e fun u H1 e1 => hr B F0 _ sg H1 _ e1 fun vs H2 hl e2 => q (u :: vs) H2 (by rw [List.length_cons, List.length_cons, hl]) (e2.held fun p hp => by
    have hp' : p ∈ (u, x) :: (vs.zip ws ++ ta) := hp
    rcases List.mem_cons.mp hp' with rfl | h
    · exact List.mem_append_right _ List.mem_cons_self
    · rcases List.mem_append.mp h with h | h
      · exact List.mem_append_left _ h
      · exact List.mem_append_right _ (List.mem_cons_of_mem _ h))
theorem ev_cb {r : List V → Hp → VK → Prop} {ws : List W} (ha : EvA K tr ro ka ws k1) (hr : RcD K r k1 ws z) : EvD K (tCB r tr) ro ka z k1 := fun B F0 ta sg H Q e q =>
  ha B F0 ta sg H _ e fun us H1 hl e1 => hr B F0 ro _ sg H1 us Q e1 hl (fun p hp => List.mem_append_left _ hp) fun t H2 e2 => q t H2 (e2.held fun p hp => by
    rcases List.mem_cons.mp hp with rfl | hp
    · exact List.mem_cons_self
    · exact List.mem_cons_of_mem _ (List.mem_append_right _ hp))
theorem evn_cb {r : List V → Hp → VK → Prop} {ws : List W} (ha : EvA K tr ro ka ws k1) (hr : RcN K r k1 ws n) : EvN K (tCB r tr) ro ka n k1 := fun B F0 ta sg H Q e q =>
  ha B F0 ta sg H _ e fun us H1 hl e1 => hr B F0 ro _ sg H1 us Q e1 hl (fun p hp => List.mem_append_left _ hp) fun t H2 e2 => q t H2 (e2.held fun p hp => List.mem_append_right _ hp)
/-- another of the ways of an operation -/
theorem rvd_l {r' : R2} (h : RvD K r ka x y z) : RvD K (fun x y H Q => r x y H Q ∨ r' x y H Q) ka x y z := fun B F0 ro ta sg H u v Q e h1 h2 q => .inl (h B F0 ro ta sg H u v Q e h1 h2 q)
theorem rvd_r {r' : R2} (h : RvD K r' ka x y z) : RvD K (fun x y H Q => r x y H Q ∨ r' x y H Q) ka x y z := fun B F0 ro ta sg H u v Q e h1 h2 q => .inr (h B F0 ro ta sg H u v Q e h1 h2 q)
theorem rvn_l {r' : R2} (h : RvN K r ka x y n) : RvN K (fun x y H Q => r x y H Q ∨ r' x y H Q) ka x y n := fun B F0 ro ta sg H u v Q e h1 h2 q => .inl (h B F0 ro ta sg H u v Q e h1 h2 q)
theorem rvn_r {r' : R2} (h : RvN K r' ka x y n) : RvN K (fun x y H Q => r x y H Q ∨ r' x y H Q) ka x y n := fun B F0 ro ta sg H u v Q e h1 h2 q => .inr (h B F0 ro ta sg H u v Q e h1 h2 q)
theorem rcd_l {r r' : List V → Hp → VK → Prop} {xs : List W} (h : RcD K r ka xs z) : RcD K (fun x H Q => r x H Q ∨ r' x H Q) ka xs z := fun B F0 ro ta sg H u Q e h1 h2 q => .inl (h B F0 ro ta sg H u Q e h1 h2 q)
theorem rcd_r {r r' : List V → Hp → VK → Prop} {xs : List W} (h : RcD K r' ka xs z) : RcD K (fun x H Q => r x H Q ∨ r' x H Q) ka xs z := fun B F0 ro ta sg H u Q e h1 h2 q => .inr (h B F0 ro ta sg H u Q e h1 h2 q)
/-! ### a new cell, frozen -/
theorem En.freeze_l (e : En K B F0 ro (ka ++ [(a, .lst ds)]) ta sg H) : En K B F0 ro ka ((.ref a, .val (.lst ds)) :: ta) sg H := by
  obtain ⟨F, g, e⟩ := e
  obtain ⟨fa, ba, xs, ha, rl⟩ := e.ce (a, .lst ds) (by simp)
  have gg : Gr B F (upd F a (.lst xs)) := ⟨Sub.new fa, fun b h1 h2 => by
    have ne : b ≠ a := fun q => h2 (q ▸ ba)
    rw [upd_ne ne]
    exact h1⟩
  have nd2 := e.nd
  rw [List.map_append, List.nodup_append] at nd2
  refine ⟨upd F a (.lst xs), g.trans gg, ⟨fun b u h => ?_, fun b u h => ?_, e.fr, nd2.1, fun q hq => ?_, e.ln, fun i w h => ?_, fun q hq => ?_⟩⟩
  · by_cases hb : b = a
    · subst hb; rw [upd_same] at h; cases h; rfl
    · rw [upd_ne hb] at h; exact e.nz b u h
  · by_cases hb : b = a
    · subst hb; rw [upd_same] at h; cases h; exact .inl ha
    · rw [upd_ne hb] at h; exact e.fz b u h
  · obtain ⟨h1, h2, h3⟩ := e.ce q (List.mem_append_left _ hq)
    have nq : q.1 ≠ a := fun z => nd2.2.2 q.1 (List.mem_map.mpr ⟨q, hq, rfl⟩) a (by simp) z
    exact ⟨by rw [upd_ne nq]; exact h1, h2, ndok_gr e.nz gg h3⟩
  · obtain ⟨v, h1, h2⟩ := e.sl i w h
    exact ⟨v, h1, wok_gr e.nz gg h2⟩
  · rcases List.mem_cons.mp hq with rfl | hq
    · exact ⟨a, xs, rfl, .inl upd_same, RpL.mono gg.sub.exz e.nz _ _ rl⟩
    · exact wok_gr e.nz gg (e.tm q hq)
theorem En.freeze_k (e : En K B F0 ro (ka ++ [(a, .dic ds)]) ta sg H) : En K B F0 ro ka ((.ref a, .val (.dic ds)) :: ta) sg H := by
  obtain ⟨F, g, e⟩ := e
  obtain ⟨fa, ba, xs, ha, rl⟩ := e.ce (a, .dic ds) (by simp)
  have gg : Gr B F (upd F a (.dK xs)) := ⟨Sub.new fa, fun b h1 h2 => by
    have ne : b ≠ a := fun q => h2 (q ▸ ba)
    rw [upd_ne ne]
    exact h1⟩
  have nd2 := e.nd
  rw [List.map_append, List.nodup_append] at nd2
  refine ⟨upd F a (.dK xs), g.trans gg, ⟨fun b u h => ?_, fun b u h => ?_, e.fr, nd2.1, fun q hq => ?_, e.ln, fun i w h => ?_, fun q hq => ?_⟩⟩
  · by_cases hb : b = a
    · subst hb; rw [upd_same] at h; cases h; rfl
    · rw [upd_ne hb] at h; exact e.nz b u h
  · by_cases hb : b = a
    · subst hb; rw [upd_same] at h; cases h; exact .inl ha
    · rw [upd_ne hb] at h; exact e.fz b u h
  · obtain ⟨h1, h2, h3⟩ := e.ce q (List.mem_append_left _ hq)
    have nq : q.1 ≠ a := fun z => nd2.2.2 q.1 (List.mem_map.mpr ⟨q, hq, rfl⟩) a (by simp) z
    exact ⟨by rw [upd_ne nq]; exact h1, h2, ndok_gr e.nz gg h3⟩
  · obtain ⟨v, h1, h2⟩ := e.sl i w h
    exact ⟨v, h1, wok_gr e.nz gg h2⟩
  · rcases List.mem_cons.mp hq with rfl | hq
    · exact ⟨a, xs, rfl, .inl upd_same, RpK.mono gg.sub.exz e.nz _ _ rl⟩
    · exact wok_gr e.nz gg (e.tm q hq)
theorem EvN.lst {ds : List D} (h : EvN K te ro ka (.lst ds) k1) : EvD K te ro ka (.val (.lst ds)) k1 := fun B F0 ta sg H Q e q => h B F0 ta sg H Q e fun a H1 e1 => q _ _ e1.freeze_l
theorem EvN.dic {ds : List (Key × D)} (h : EvN K te ro ka (.dic ds) k1) : EvD K te ro ka (.val (.dic ds)) k1 := fun B F0 ta sg H Q e q => h B F0 ta sg H Q e fun a H1 e1 => q _ _ e1.freeze_k

/-! ### tests -/
theorem et_test {b : Bool} (h : EvD K te ro ka (.val (.bl b)) k1) : EvT K (tTest te) ro ka b k1 := fun B F0 ta sg H Q e q => h B F0 ta sg H _ e fun v H1 e1 => ⟨b, e1.tm_bl List.mem_cons_self, q H1 e1.pop⟩
theorem et_B {b : Bool} (h : EvD K te ro ka (.val (.bl b)) k1) : EvT K (tB te) ro ka b k1 := fun B F0 ta sg H Q e q => h B F0 ta sg H _ e fun v H1 e1 => ⟨b, e1.tm_bl List.mem_cons_self, q H1 e1.pop⟩
theorem et_not {a : Bool} (h : EvT K tt ro ka a k1) : EvT K (tNot tt) ro ka (!a) k1 := fun B F0 ta sg H Q e q => h B F0 ta sg H _ e fun H1 e1 => q H1 e1
/-- and, or: k2 is reached in any case -/
theorem et_and {a b : Bool} (h1 : EvT K tt ro ka a k1) (h2 : a = true → EvT K tu ro k1 b k1) : EvT K (tAnd tt tu) ro ka (a && b) k1 := fun B F0 ta sg H Q e q => h1 B F0 ta sg H _ e fun H1 e1 => by
  cases a with
  | true => exact h2 rfl B F0 ta sg H1 Q e1 q
  | false => exact q H1 e1
theorem et_or {a b : Bool} (h1 : EvT K tt ro ka a k1) (h2 : a = false → EvT K tu ro k1 b k1) : EvT K (tOr tt tu) ro ka (a || b) k1 := fun B F0 ta sg H Q e q => h1 B F0 ta sg H _ e fun H1 e1 => by
  cases a with
  | true => exact q H1 e1
  | false => exact h2 rfl B F0 ta sg H1 Q e1 q
theorem et_and1 {b : Bool} (h1 : EvT K tt ro ka true k1) (h2 : EvT K tu ro k1 b k2) : EvT K (tAnd tt tu) ro ka b k2 := fun B F0 ta sg H Q e q => h1 B F0 ta sg H _ e fun H1 e1 => h2 B F0 ta sg H1 Q e1 q
theorem et_and0 (h1 : EvT K tt ro ka false k1) : EvT K (tAnd tt tu) ro ka false k1 := fun B F0 ta sg H Q e q => h1 B F0 ta sg H _ e fun H1 e1 => q H1 e1
theorem et_or0 {b : Bool} (h1 : EvT K tt ro ka false k1) (h2 : EvT K tu ro k1 b k2) : EvT K (tOr tt tu) ro ka b k2 := fun B F0 ta sg H Q e q => h1 B F0 ta sg H _ e fun H1 e1 => h2 B F0 ta sg H1 Q e1 q
theorem et_or1 (h1 : EvT K tt ro ka true k1) : EvT K (tOr tt tu) ro ka true k1 := fun B F0 ta sg H Q e q => h1 B F0 ta sg H _ e fun H1 e1 => q H1 e1
theorem EvT.to {a b : Bool} (h : EvT K tt ro ka a k1) (e : a = b) : EvT K tt ro ka b k1 := e ▸ h
theorem EvD.to {w' : W} (h : EvD K te ro ka w k1) (e : w = w') : EvD K te ro ka w' k1 := e ▸ h
theorem EvD.imm {d : D} (h : EvD K te ro ka (.vw d) k1) (i : imm d = true) : EvD K te ro ka (.val d) k1 := fun B F0 ta sg H Q e q => h B F0 ta sg H _ e fun v H1 e1 => q v H1 (by
  obtain ⟨F, g, e1⟩ := e1
  have h1 := e1.tm _ List.mem_cons_self
  exact ⟨F, g, (e1.held (ta' := ta) fun p hp => List.mem_cons_of_mem _ hp).push (imm_any i h1)⟩)
theorem EvD.vw {d : D} (h : EvD K te ro ka (.val d) k1) : EvD K te ro ka (.vw d) k1 := fun B F0 ta sg H Q e q => h B F0 ta sg H _ e fun v H1 e1 => q v H1 (by
  obtain ⟨F, g, e1⟩ := e1
  exact ⟨F, g, (e1.held (ta' := ta) fun p hp => List.mem_cons_of_mem _ hp).push (wok_vw e1.nz (e1.tm _ List.mem_cons_self))⟩)
theorem ev_andV {a b : Bool} (h1 : EvD K te ro ka (.val (.bl a)) k1) (h2 : a = true → EvD K tf ro k1 (.val (.bl b)) k1) : EvD K (tAndV te tf) ro ka (.val (.bl (a && b))) k1 := fun B F0 ta sg H Q e q => h1 B F0 ta sg H _ e fun v H1 e1 => ⟨a, e1.tm_bl List.mem_cons_self, by
  have hv := e1.tm_bl List.mem_cons_self
  cases a with
  | true => exact h2 rfl B F0 ta sg H1 Q e1.pop q
  | false => subst hv; exact q _ H1 e1⟩
theorem ev_orV {a b : Bool} (h1 : EvD K te ro ka (.val (.bl a)) k1) (h2 : a = false → EvD K tf ro k1 (.val (.bl b)) k1) : EvD K (tOrV te tf) ro ka (.val (.bl (a || b))) k1 := fun B F0 ta sg H Q e q => h1 B F0 ta sg H _ e fun v H1 e1 => ⟨a, e1.tm_bl List.mem_cons_self, by
  have hv := e1.tm_bl List.mem_cons_self
  cases a with
  | true => subst hv; exact q _ H1 e1
  | false => exact h2 rfl B F0 ta sg H1 Q e1.pop q⟩
theorem ev_andV1 (h1 : EvD K te ro ka (.val (.bl true)) k1) (h2 : EvD K tf ro k1 w k2) : EvD K (tAndV te tf) ro ka w k2 := fun B F0 ta sg H Q e q => h1 B F0 ta sg H _ e fun v H1 e1 => ⟨true, e1.tm_bl List.mem_cons_self, h2 B F0 ta sg H1 Q e1.pop q⟩
theorem ev_andV0 (h1 : EvD K te ro ka (.val (.bl false)) k1) : EvD K (tAndV te tf) ro ka (.val (.bl false)) k1 := fun B F0 ta sg H Q e q => h1 B F0 ta sg H _ e fun v H1 e1 => ⟨false, e1.tm_bl List.mem_cons_self, by
  have hv := e1.tm_bl List.mem_cons_self
  subst hv
  exact q _ H1 e1⟩
theorem ev_notV {a : Bool} (h1 : EvD K te ro ka (.val (.bl a)) k1) : EvD K (tNotV te) ro ka (.val (.bl (!a))) k1 := fun B F0 ta sg H Q e q => h1 B F0 ta sg H _ e fun v H1 e1 => ⟨a, e1.tm_bl List.mem_cons_self, q _ _ (e1.pop.push_imm fun _ => rfl)⟩
theorem ev_ifF (h : EvT K tt ro ka false k1) (h1 : EvD K tf ro k1 w k2) : EvD K (tIf tt te tf) ro ka w k2 := fun B F0 ta sg H Q e q => h B F0 ta sg H _ e fun H1 e1 => h1 B F0 ta sg H1 Q e1 q
/-! ### slices' parts -/
theorem eo_none : EvO K tNoPart ro ka none ka := fun B F0 ta sg H Q e q => q H e
theorem eo_some {i : Int} (h : EvD K te ro ka (.val (.int i)) k1) : EvO K (tPart te) ro ka (some i) k1 := fun B F0 ta sg H Q e q => h B F0 ta sg H _ e fun v H1 e1 => ⟨i, e1.tm_int List.mem_cons_self, q H1 e1.pop⟩

/-! ### tuples, lists displayed -/
theorem rpl_of {B F : Hp} : ∀ {vs : List V} {ds : List D}, vs.length = ds.length → (∀ p ∈ vs.zip (ds.map W.val), WOk K B F p.1 p.2) → RpL K F ds vs
  | [], [], _, _ => rfl
  | [], _ :: _, h, _ => by cases h
  | _ :: _, [], h, _ => by cases h
  | v :: vs, d :: ds, hl, h => ⟨v, vs, rfl, h (v, .val d) List.mem_cons_self, rpl_of (by simpa using hl) fun p hp => h p (List.mem_cons_of_mem _ hp)⟩
theorem rpl_len {F : Hp} : ∀ {ds : List D} {vs : List V}, RpL K F ds vs → vs.length = ds.length
  | [], vs, h => by rw [show vs = [] from h]; rfl
  | d :: ds, vs, h => by
    obtain ⟨x, ys, rfl, _, h2⟩ := h
    rw [List.length_cons, List.length_cons, rpl_len h2]
theorem rpl_get {F : Hp} : ∀ {ds : List D} {vs : List V} {i : Nat} {d : D}, RpL K F ds vs → ds[i]? = some d → ∃ v, vs[i]? = some v ∧ Rp K F d v
  | [], _, _, _, _, e => by simp at e
  | d0 :: ds, vs, 0, d, h, e => by
    obtain ⟨x, ys, rfl, h1, _⟩ := h
    cases e
    exact ⟨x, rfl, h1⟩
  | d0 :: ds, vs, i + 1, d, h, e => by
    obtain ⟨x, ys, rfl, _, h2⟩ := h
    obtain ⟨v, q1, q2⟩ := rpl_get (i := i) (d := d) h2 (by simpa using e)
    exact ⟨v, by simpa using q1, q2⟩
theorem rpl_app {F : Hp} : ∀ {ds es : List D} {xs ys : List V}, RpL K F ds xs → RpL K F es ys → RpL K F (ds ++ es) (xs ++ ys)
  | [], es, xs, ys, h, h2 => by rw [show xs = [] from h]; exact h2
  | d :: ds, es, xs, ys, h, h2 => by
    obtain ⟨x, zs, rfl, h1, h3⟩ := h
    exact ⟨x, zs ++ ys, rfl, h1, rpl_app h3 h2⟩
theorem rpl_drop {F : Hp} : ∀ (n : Nat) {ds : List D} {xs : List V}, RpL K F ds xs → RpL K F (ds.drop n) (xs.drop n)
  | 0, _, _, h => h
  | n + 1, [], xs, h => by rw [show xs = [] from h]; rfl
  | n + 1, d :: ds, xs, h => by
    obtain ⟨x, ys, rfl, _, h2⟩ := h
    exact rpl_drop n h2
theorem rpl_take {F : Hp} : ∀ (n : Nat) {ds : List D} {xs : List V}, RpL K F ds xs → RpL K F (ds.take n) (xs.take n)
  | 0, _, _, _ => rfl
  | n + 1, [], xs, h => by rw [show xs = [] from h]; rfl
  | n + 1, d :: ds, xs, h => by
    obtain ⟨x, ys, rfl, h1, h2⟩ := h
    exact ⟨x, ys.take n, rfl, h1, rpl_take n h2⟩
theorem rpl_set {F : Hp} : ∀ {ds : List D} {xs : List V} (i : Nat) {d : D} {v : V}, RpL K F ds xs → Rp K F d v → RpL K F (ds.set i d) (xs.set i v)
  | [], xs, _, _, _, h, _ => by rw [show xs = [] from h]; rfl
  | d :: ds, xs, 0, _, _, h, q => by
    obtain ⟨x, ys, rfl, h1, h2⟩ := h
    exact ⟨_, ys, rfl, q, h2⟩
  | d :: ds, xs, i + 1, _, _, h, q => by
    obtain ⟨x, ys, rfl, h1, h2⟩ := h
    exact ⟨x, _, rfl, h1, rpl_set i h2 q⟩
theorem ev_tup {ds : List D} (h : EvA K tr ro ka (ds.map W.val) k1) (hl : ds.length ≤ 100000 := by decide) : EvD K (tTup tr) ro ka (.val (.tup ds)) k1 := fun B F0 ta sg H Q e q => h B F0 ta sg H _ e fun vs H1 hvl e1 => by
  rw [List.length_map] at hvl
  refine ⟨Nat.le_trans (by rw [hvl]; exact hl) (by decide : 100000 ≤ sizeLine), fun p hp => q _ _ ?_⟩
  obtain ⟨F, g, e1⟩ := e1
  obtain ⟨e2, g2⟩ := e1.lay (o := .tup vs) hp rfl
  refine ⟨_, g.trans g2, (e2.held (ta' := ta) fun p hp => List.mem_append_right _ hp).push ⟨p, vs, rfl, .inl (.inl upd_same), ?_⟩⟩
  exact RpL.mono g2.sub.exz e1.nz _ _ (rpl_of hvl fun z hz => e1.tm z (List.mem_append_left _ hz))
theorem evn_lst {ds : List D} (h : EvA K tr ro ka (ds.map W.val) k1) (hl : ds.length ≤ 100000 := by decide) : EvN K (tLst tr) ro ka (.lst ds) k1 := fun B F0 ta sg H Q e q => h B F0 ta sg H _ e fun vs H1 hvl e1 => by
  rw [List.length_map] at hvl
  refine ⟨Nat.le_trans (by rw [hvl]; exact hl) (by decide : 100000 ≤ sizeLine), fun p hp => q _ _ ?_⟩
  obtain ⟨F, g, e1⟩ := e1
  refine ⟨F, g, (e1.cell (o := .lst vs) hp (n := .lst ds) ⟨vs, upd_same, rpl_of hvl fun z hz => e1.tm z (List.mem_append_left _ hz)⟩).held fun p hp => List.mem_append_right _ hp⟩
end
end DL

/-! DC: operations by data (own work). -/
namespace DL
open PySem L2

/-! ### universal operators: each of the ways that this text takes -/
abbrev rAddI : R2 := rI0 fun i j => .int (i + j)
abbrev rAddS : R2 := fun x y H Q => ∃ i j, x = .str i ∧ y = .str j ∧ i.length + j.length ≤ sizeLine ∧ Q (.str (i ++ j)) H
/-- list + list, locked or not -/
def rCatR : R2 := fun x y H Q => ∃ l b xs zs, x = .ref l ∧ y = .ref b ∧ Rd H l (.lst xs) ∧ Rd H b (.lst zs) ∧ xs.length + zs.length ≤ sizeLine ∧ ∀ p, H p = none → Q (.ref p) (upd H p (.lst (xs ++ zs)))
section
variable {X : Cx}
theorem op_catR : OpR X (binaryOp .Add) rCatR := fun pins s sg H x y v u Q I rx ry h => by
  obtain ⟨l, b, xs, zs, ex, ey, h1, h2, hz, q⟩ := h
  subst ex ey
  cases rx
  cases ry
  have ⟨_, us, _, r, e⟩ := h1.ok I.hok
  have ⟨_, ws, _, r2, e2⟩ := h2.ok I.hok
  have lens : us.length + ws.length ≤ sizeLine := by rw [← r.length, ← r2.length]; exact hz
  refine PySem.P.add_list e e2 ?_ (show us.toArray.size + ws.toArray.size ≤ _ by rw [us.size_toArray, ws.size_toArray]; exact lens)
  rw [List.append_toArray]
  exact ⟨.ref _, _, I.lnew (t' := s.toks) (r.append r2) (xs.length_append ▸ hz), rfl, q _ I.fresh⟩
def rAddU (K : PySem.W.Frag) : R2 := fun x y H Q => rAddI x y H Q ∨ (fun x y H Q => rAddS x y H Q ∨ (fun x y H Q => rCatR x y H Q ∨ rCatA K x y H Q) x y H Q) x y H Q
theorem op_addU : OpR X (binaryOp .Add) (rAddU X.K) := op_add.or (op_add_str.or (op_catR.or op_catA))
/-- s * n for texts -/
abbrev rSubI : R2 := rI0 fun i j => .int (i - j)
abbrev rPowI : R2 := rI CPow fun i j => .int (i ^ j.toNat)
abbrev rModI : R2 := rI (fun _ j => 0 < j) fun i j => .int (i % j)
abbrev rDivI : R2 := rI CDiv fun i j => .int (i / j)
abbrev rLtI : R2 := rI0 fun i j => .bl (decide (i < j))
abbrev rLeI : R2 := rI0 fun i j => .bl (decide (i ≤ j))
abbrev rGtI : R2 := rI0 fun i j => .bl (decide (j < i))
abbrev rGeI : R2 := rI0 fun i j => .bl (decide (j ≤ i))
end

section
variable {K : PySem.W.Frag} {B F0 : Hp} {ro : Ro} {ka k1 k2 k3 : Cells} {ta : List (V × W)} {sg : L2.St} {H : Hp} {te tf tg : TE} {tl th : TO} {tr : TA} {w x y z : W} {n : Nd} {r : R2}

/-! ### numbers -/
theorem rv_I0 {g : Int → Int → V} {i j : Int} {d : D} (h : ∀ F, Rp K F d (g i j)) : RvD K (rI0 g) ka (.val (.int i)) (.val (.int j)) (.val d) := fun B F0 ro ta sg H u v Q e h1 h2 q =>
  ⟨i, j, e.tm_int h1, e.tm_int h2, q _ _ (e.push_imm fun F => h F)⟩
theorem rv_I {C : Int → Int → Prop} {g : Int → Int → V} {i j : Int} {d : D} (c : C i j) (h : ∀ F, Rp K F d (g i j)) : RvD K (rI C g) ka (.val (.int i)) (.val (.int j)) (.val d) := fun B F0 ro ta sg H u v Q e h1 h2 q =>
  ⟨i, j, e.tm_int h1, e.tm_int h2, c, q _ _ (e.push_imm fun F => h F)⟩
theorem rv_addI {i j : Int} : RvD K (rAddU K) ka (.val (.int i)) (.val (.int j)) (.val (.int (i + j))) := rvd_l (rv_I0 fun _ => rfl)
theorem rv_addS {i j : Str} (h : i.length + j.length ≤ 100000) : RvD K (rAddU K) ka (.val (.str i)) (.val (.str j)) (.val (.str (i ++ j))) := rvd_r (rvd_l fun B F0 ro ta sg H u v Q e h1 h2 q =>
  ⟨i, j, e.tm_str h1, e.tm_str h2, Nat.le_trans h (by decide), q _ _ (e.push_imm fun F => rfl)⟩)
theorem rv_sub {i j : Int} : RvD K rSubI ka (.val (.int i)) (.val (.int j)) (.val (.int (i - j))) := rv_I0 fun _ => rfl
theorem rv_pow {i j : Int} (c : CPow i j) : RvD K rPowI ka (.val (.int i)) (.val (.int j)) (.val (.int (i ^ j.toNat))) := rv_I c fun _ => rfl
theorem rv_mod {i j : Int} (c : 0 < j) : RvD K rModI ka (.val (.int i)) (.val (.int j)) (.val (.int (i % j))) := rv_I c fun _ => rfl
theorem rv_div {i j : Int} (c : CDiv i j) : RvD K rDivI ka (.val (.int i)) (.val (.int j)) (.val (.int (i / j))) := rv_I c fun _ => rfl
theorem rv_lt {i j : Int} : RvD K rLtI ka (.val (.int i)) (.val (.int j)) (.val (.bl (decide (i < j)))) := rv_I0 fun _ => rfl
theorem rv_le {i j : Int} : RvD K rLeI ka (.val (.int i)) (.val (.int j)) (.val (.bl (decide (i ≤ j)))) := rv_I0 fun _ => rfl
theorem rv_gt {i j : Int} : RvD K rGtI ka (.val (.int i)) (.val (.int j)) (.val (.bl (decide (j < i)))) := rv_I0 fun _ => rfl
theorem rv_ge {i j : Int} : RvD K rGeI ka (.val (.int i)) (.val (.int j)) (.val (.bl (decide (j ≤ i)))) := rv_I0 fun _ => rfl
theorem ru_neg {i : Int} : RuD K (rU fun i => .int (-i)) ka (.val (.int i)) (.val (.int (-i))) := fun B F0 ro ta sg H u Q e h1 q => ⟨i, e.tm_int h1, q _ _ (e.push_imm fun F => rfl)⟩

/-! ### sequences: what stands behind a value -/
/-- w is a sequence of ds: t: a tuple; b: viewed -/
inductive Lk (ka : Cells) : W → Bool → List D → Bool → Prop where
  | vl {ds} : Lk ka (.val (.lst ds)) false ds false
  | vt {ds} : Lk ka (.val (.tup ds)) true ds false
  | wl {ds} : Lk ka (.vw (.lst ds)) false ds true
  | wt {ds} : Lk ka (.vw (.tup ds)) true ds true
  | ce {a ds} (j : Nat) (h : ka[j]? = some (a, .lst ds)) : Lk ka (.val (.adr a)) false ds false
def SqB (K : PySem.W.Frag) (t : Bool) (H : Hp) (a : Addr) (xs : List V) : Prop := if t then SqT K H a xs else Rd H a (.lst xs)
theorem SqB.sq {t : Bool} {a : Addr} {xs : List V} (h : SqB K t H a xs) : SqL K H a xs ∨ SqT K H a xs := by
  cases t with
  | true => exact .inr h
  | false => exact .inl (.inl h)
/-- what a sequence's value is, its items over a heap G that H holds -/
theorem Lk.get {F : Hp} {t b : Bool} {ds : List D} {v : V} (l : Lk ka w t ds b) (e : EnF K B F ro ka ta sg H) (h : WOk K B F v w) :
    ∃ a xs, v = .ref a ∧ SqB K t H a xs ∧ RpL K (if b then uni B F else F) ds xs := by
  cases l with
  | vl =>
    obtain ⟨a, xs, rfl, h1, h2⟩ := h
    exact ⟨a, xs, rfl, e.fz.rd e.nz h1, h2⟩
  | vt =>
    obtain ⟨a, xs, rfl, h1, h2⟩ := h
    exact ⟨a, xs, rfl, sqT_mono e.fz e.nz h1, h2⟩
  | wl =>
    obtain ⟨a, xs, rfl, h1, h2⟩ := h
    exact ⟨a, xs, rfl, (uni_exz e.fz e.fr).rd (uni_nz e.nz) h1, h2⟩
  | wt =>
    obtain ⟨a, xs, rfl, h1, h2⟩ := h
    exact ⟨a, xs, rfl, sqT_mono (uni_exz e.fz e.fr) (uni_nz e.nz) h1, h2⟩
  | @ce a ds j hj =>
    obtain ⟨_, _, xs, h1, h2⟩ := e.ce _ (List.mem_of_getElem? hj)
    have hv : v = .ref a := h
    exact ⟨a, xs, hv, .inl h1, h2⟩
theorem Lk.at {F : Hp} {t b : Bool} {ds : List D} {v : V} (l : Lk ka w t ds b) (e : EnF K B F ro ka ta sg H) (h : WOk K B F v w) :
    ∃ a xs, v = .ref a ∧ (SqL K H a xs ∨ SqT K H a xs) ∧ RpL K (if b then uni B F else F) ds xs :=
  let ⟨a, xs, h1, h2, h3⟩ := l.get e h
  ⟨a, xs, h1, h2.sq, h3⟩

/-! ### len -/
/-- len: sequences, texts, dicts -/
def rLenU (K : PySem.W.Frag) : List V → Hp → VK → Prop := fun xs H Q => (fun xs H Q => ∃ p ys, xs = [.ref p] ∧ (SqL K H p ys ∨ SqT K H p ys) ∧ Q (.int ys.length) H) xs H Q ∨ (fun xs H Q => ∃ z, xs = [.str z] ∧ z.length ≤ sizeLine ∧ Q (.int z.length) H) xs H Q
theorem call_lenU {X : Cx} : CallR X (.builtin "len") (rLenU X.K) := call_len_seq.or call_len_str
theorem zip_one {us : List V} {x : W} (h : us.length = [x].length) (hm : ∀ p ∈ us.zip [x], p ∈ ta) : ∃ u, us = [u] ∧ (u, x) ∈ ta := by
  match us, h with
  | [u], _ => exact ⟨u, rfl, hm _ List.mem_cons_self⟩
theorem zip_two {us : List V} {x y : W} (h : us.length = [x, y].length) (hm : ∀ p ∈ us.zip [x, y], p ∈ ta) : ∃ u v, us = [u, v] ∧ (u, x) ∈ ta ∧ (v, y) ∈ ta := by
  match us, h with
  | [u, v], _ => exact ⟨u, v, rfl, hm _ List.mem_cons_self, hm _ (List.mem_cons_of_mem _ List.mem_cons_self)⟩
theorem rc_len {t b : Bool} {ds : List D} (l : Lk ka w t ds b) : RcD K (rLenU K) ka [w] (.val (.int ds.length)) := rcd_l fun B F0 ro ta sg H us Q e hl hm q => by
  obtain ⟨u, rfl, hu⟩ := zip_one hl hm
  obtain ⟨F, g, e⟩ := e
  obtain ⟨a, xs, rfl, h1, h2⟩ := l.at e (e.tm _ hu)
  refine ⟨a, xs, rfl, h1, ?_⟩
  rw [rpl_len h2]
  exact q _ _ ⟨F, g, e.push rfl⟩
theorem rc_lenS {s : Str} (h : s.length ≤ 100000) : RcD K (rLenU K) ka [.val (.str s)] (.val (.int s.length)) := rcd_r fun B F0 ro ta sg H us Q e hl hm q => by
  obtain ⟨u, rfl, hu⟩ := zip_one hl hm
  have hv := e.tm_str hu
  subst hv
  exact ⟨s, rfl, Nat.le_trans h (by decide), q _ _ (e.push_imm fun _ => rfl)⟩

/-! ### items -/
theorem atI_map {α β : Type} {f : α → β → Prop} {xs : List α} {ys : List β} (hl : xs.length = ys.length) {i : Int} {y : β} (h : atI ys i = some y) (hf : ∀ (j : Nat) y, ys[j]? = some y → ∃ x, xs[j]? = some x ∧ f x y) : ∃ x, atI xs i = some x ∧ f x y := by
  unfold atI at h ⊢
  rw [hl]
  cases q : ixN ys.length i with
  | none => rw [q] at h; cases h
  | some j =>
    rw [q] at h
    exact hf j y h
theorem rv_ix {t b : Bool} {ds : List D} {i : Int} {d : D} (l : Lk ka w t ds b) (hd : atI ds i = some d) : RvD K (rIx K) ka w (.val (.int i)) (part b d) := fun B F0 ro ta sg H u v Q e h1 h2 q => by
  have hv := e.tm_int h2
  subst hv
  obtain ⟨F, g, e⟩ := e
  obtain ⟨a, xs, rfl, s1, s2⟩ := l.at e (e.tm _ h1)
  obtain ⟨z, hz, rz⟩ := atI_map (f := fun x d => Rp K (if b then uni B F else F) d x) (rpl_len s2) hd fun j y hy => rpl_get s2 hy
  have fin := q z H ⟨F, g, e.push (wok_part b rz)⟩
  rcases s1 with s1 | s1
  · exact .inl ⟨a, xs, i, z, rfl, rfl, s1, hz, fin⟩
  · exact .inr (.inl ⟨a, xs, i, z, rfl, rfl, s1, hz, fin⟩)
theorem rv_ixS {s : Str} {i : Int} {c : Nat} (hs : s.length ≤ 100000) (hc : atI s.cps.toList i = some c) : RvD K (rIx K) ka (.val (.str s)) (.val (.int i)) (.val (.str ⟨#[c]⟩)) := fun B F0 ro ta sg H u v Q e h1 h2 q =>
  .inr (.inr ⟨s, i, c, e.tm_str h1, e.tm_int h2, Nat.le_trans hs (by decide), hc, q _ _ (e.push_imm fun _ => rfl)⟩)

/-! ### slices -/
abbrev rSlU (K : PySem.W.Frag) : V → Option Int → Option Int → Hp → VK → Prop := fun x lo hi H Q => rSlL K x lo hi H Q ∨ (fun x lo hi H Q => rSlA K x lo hi H Q ∨ rSlS x lo hi H Q) x lo hi H Q
theorem sl_U {X : Cx} : SlR X (rSlU X.K) := sl_list.or (sl_tupA.or sl_str)
def cutD {α : Type} (xs : List α) (lo hi : Option Int) : List α := (xs.drop (HT.sIx xs.length 0 lo)).take (HT.sIx xs.length xs.length hi - HT.sIx xs.length 0 lo)
theorem rpl_cut {F : Hp} {ds : List D} {xs : List V} (h : RpL K F ds xs) (lo hi : Option Int) : RpL K F (cutD ds lo hi) (cutV xs lo hi) := by
  unfold cutD cutV
  rw [rpl_len h]
  exact rpl_take _ (rpl_drop _ h)
theorem evn_sl {lo hi : Option Int} {ds : List D} (ha : EvD K te ro ka w k1) (h1 : EvO K tl ro k1 lo k2) (h2 : EvO K th ro k2 hi k3) (l : Lk k3 w false ds false) : EvN K (tSl (rSlU K) te tl th) ro ka (.lst (cutD ds lo hi)) k3 := fun B F0 ta sg H Q e q =>
  ha B F0 ta sg H _ e fun u H1 e1 => h1 B F0 _ sg H1 _ e1 fun H2 e2 => h2 B F0 _ sg H2 _ e2 fun H3 e3 => by
    obtain ⟨F, g, e3⟩ := e3
    obtain ⟨a, xs, rfl, s1, s2⟩ := l.get e3 (e3.tm _ List.mem_cons_self)
    refine .inl ⟨a, xs, rfl, .inl s1, fun p hp => q p _ ?_⟩
    exact ⟨F, g, (e3.cell (o := .lst (cutV xs lo hi)) hp (n := .lst (cutD ds lo hi)) ⟨_, upd_same, rpl_cut s2 lo hi⟩).held fun p hp => List.mem_cons_of_mem _ hp⟩
theorem ev_slS {lo hi : Option Int} {s : Str} (ha : EvD K te ro ka (.val (.str s)) k1) (h1 : EvO K tl ro k1 lo k2) (h2 : EvO K th ro k2 hi k3) (hs : s.length ≤ 100000) : EvD K (tSl (rSlU K) te tl th) ro ka (.val (.str (cutS s lo hi))) k3 := fun B F0 ta sg H Q e q =>
  ha B F0 ta sg H _ e fun u H1 e1 => h1 B F0 _ sg H1 _ e1 fun H2 e2 => h2 B F0 _ sg H2 _ e2 fun H3 e3 =>
    .inr (.inr ⟨s, e3.tm_str List.mem_cons_self, Nat.le_trans hs (by decide), q _ _ (e3.pop.push_imm fun _ => rfl)⟩)

/-! ### list + list, tuple + tuple -/
theorem rvn_cat {b1 b2 : Bool} {ds es : List D} (l1 : Lk ka x false ds false) (l2 : Lk ka y false es false) (hz : ds.length + es.length ≤ 100000) : RvN K (rAddU K) ka x y (.lst (ds ++ es)) :=
  rvn_r (rvn_r (rvn_l fun B F0 ro ta sg H u v Q e h1 h2 q => by
    obtain ⟨F, g, e⟩ := e
    obtain ⟨a, xs, rfl, s1, r1⟩ := l1.get e (e.tm _ h1)
    obtain ⟨b, ys, rfl, s2, r2⟩ := l2.get e (e.tm _ h2)
    refine ⟨a, b, xs, ys, rfl, rfl, s1, s2, by rw [rpl_len r1, rpl_len r2]; exact Nat.le_trans hz (by decide), fun p hp => q p _ ?_⟩
    exact ⟨F, g, e.cell (o := .lst (xs ++ ys)) hp (n := .lst (ds ++ es)) ⟨_, upd_same, rpl_app r1 r2⟩⟩))
end
end DL

/-! DS: statements, loops, contracts by data (own work). -/
namespace DL
open PySem L2

section
variable (K : PySem.W.Frag)
/-- from such a state P holds -/
def Gp (B F0 : Hp) (ta : List (V × W)) (P : L2.St → Hp → Prop) (ro : Ro) (ka : Cells) : Prop := ∀ sg H, En K B F0 ro ka ta sg H → P sg H
/-- how a call ends: with data, or an exception of a class, its own fields -/
inductive Out where
  | ret (d : D) | exc (C : Addr) (fs : List (Str × D)) | exc0 (C : Addr)
abbrev Ct := List W → Cells → (Out → Cells → Prop) → Prop
/-- what is wanted at a return -/
def RtOk (B F0 : Hp) (out : Out → Cells → Prop) (rt : VK) : Prop := ∀ d ka v H, out (.ret d) ka → En K B F0 [] ka [(v, .val d)] [] H → rt v H
def RxOk (B F0 : Hp) (out : Out → Cells → Prop) (E : XK) : Prop :=
  (∀ C fs ka dx H, out (.exc C fs) ka → En K B F0 [] (ka ++ [(dx, .xd fs)]) [] [] H → E (.ref C) (some dx) H) ∧
  ∀ C ka H, out (.exc0 C) ka → En K B F0 [] ka [] [] H → E (.ref C) none H
/-- the promise of a contract -/
def spC (C : Ct) : Sp := fun vs H Q E => ∃ B F args ka out, C args ka out ∧ vs.length = args.length ∧ En K B F [] ka (vs.zip args) [] H ∧ RtOk K B F out Q ∧ RxOk K B F out E
end

section
variable {K : PySem.W.Frag} {B F0 : Hp} {ro : Ro} {ka k1 k2 k3 : Cells} {ta : List (V × W)} {sg : L2.St} {H : Hp} {te tf tg : TE} {tl th : TO} {tr : TA} {tt : TT} {w x y z : W} {n : Nd} {r : R2} {De : Ends} {t u : TS} {P : L2.St → Hp → Prop}
theorem En.gp (e : En K B F0 ro ka ta sg H) (h : Gp K B F0 ta P ro ka) : P sg H := h sg H e
theorem En.set (e : En K B F0 ro ka ((v, w) :: ta) sg H) (i : Nat) : En K B F0 (ro.set i (some w)) ka ta (sg.set i (some v)) H :=
  let ⟨F, g, q⟩ := e
  ⟨F, g, (q.set (q.tm _ List.mem_cons_self) i).held fun _ h => List.mem_cons_of_mem _ h⟩
theorem En.setA (e : En K B F0 ro ka ta sg H) (i : Nat) (a : Addr) : En K B F0 (ro.set i (some (.val (.adr a)))) ka ta (sg.set i (some (.ref a))) H :=
  let ⟨F, g, q⟩ := e
  ⟨F, g, q.set (w := .val (.adr a)) rfl i⟩
theorem g_next (h : Gp K B F0 ta De.nx ro ka) : Gp K B F0 ta (tNext De) ro ka := h
theorem g_asg {i : Nat} (h : EvD K te ro ka w k1) (k : Gp K B F0 ta De.nx (ro.set i (some w)) k1) : Gp K B F0 ta (tAsg te (gName i) De) ro ka := fun sg H e => h B F0 ta sg H _ e fun v H1 e1 => k _ _ (e1.set i)
theorem g_asgN {i : Nat} (h : EvN K te ro ka n k1) (k : ∀ a, Gp K B F0 ta De.nx (ro.set i (some (.val (.adr a)))) (k1 ++ [(a, n)])) : Gp K B F0 ta (tAsg te (gName i) De) ro ka := fun sg H e => h B F0 ta sg H _ e fun a H1 e1 => k a _ _ (e1.setA i a)
theorem q_asg {i : Nat} (h : EvD K te ro ka w k1) (k : Gp K B F0 ta (u De) (ro.set i (some w)) k1) : Gp K B F0 ta (tSeq (tAsg te (gName i)) u De) ro ka := g_asg (De := { De with nx := u De }) h k
theorem q_asgN {i : Nat} (h : EvN K te ro ka n k1) (k : ∀ a, Gp K B F0 ta (u De) (ro.set i (some (.val (.adr a)))) (k1 ++ [(a, n)])) : Gp K B F0 ta (tSeq (tAsg te (gName i)) u De) ro ka := g_asgN (De := { De with nx := u De }) h k
theorem g_drop (h : EvD K te ro ka w k1) (k : Gp K B F0 ta De.nx ro k1) : Gp K B F0 ta (tDrop te De) ro ka := fun sg H e => h B F0 ta sg H _ e fun v H1 e1 => k _ _ e1.pop
theorem g_if {b : Bool} {u : TS} (h : EvT K tt ro ka b k1) (h1 : b = true → Gp K B F0 ta (t De) ro k1) (h2 : b = false → Gp K B F0 ta (u De) ro k1) : Gp K B F0 ta (tIfS tt t u De) ro ka := fun sg H e => h B F0 ta sg H _ e fun H1 e1 => by
  cases b with
  | true => exact h1 rfl _ _ e1
  | false => exact h2 rfl _ _ e1
/-- an if without else -/
theorem q_when {b : Bool} (h : EvT K tt ro ka b k1) (h1 : b = true → Gp K B F0 ta (t { De with nx := u De }) ro k1) (h2 : b = false → Gp K B F0 ta (u De) ro k1) : Gp K B F0 ta (tSeq (tIfS tt t tNext) u De) ro ka := g_if (De := { De with nx := u De }) h h1 h2
theorem En.leave (e : En K B F0 ro ka ((v, w) :: ta) sg H) : En K B F0 [] ka [(v, w)] [] H :=
  let ⟨F, g, q⟩ := e
  ⟨F, g, (q.frame (ro' := []) (sg' := []) rfl fun i w h => by simp at h).held fun p hp => by
    have : p = (v, w) := by simpa using hp
    rw [this]
    exact List.mem_cons_self⟩
theorem g_ret {out : Out → Cells → Prop} {d : D} {De : Ends} (hr : RtOk K B F0 out De.rt) (h : EvD K te ro ka (.val d) k1) (o : out (.ret d) k1) : Gp K B F0 ta (tRet te De) ro ka := fun sg H e => h B F0 ta sg H _ e fun v H1 e1 => hr d k1 v H1 o e1.leave
/-- the body's end without a return -/
theorem g_end {out : Out → Cells → Prop} {Q : VK} (hr : RtOk K B F0 out Q) (o : out (.ret .non) ka) : Gp K B F0 ta (fun _ H' => Q .non H') ro ka := fun sg H e => hr .non ka .non H o ((e.push_imm (v := .non) (w := .val .non) fun _ => rfl).leave)
/-! ### cells changed -/
theorem EnF.rd_lst {F : Hp} (e : EnF K B F ro ka ta sg H) {j : Nat} {a : Addr} {ds : List D} (hj : ka[j]? = some (a, .lst ds)) : ∃ xs, H a = some (.lst xs) ∧ RpL K F ds xs := (e.ce _ (List.mem_of_getElem? hj)).2.2
theorem g_app {j0 j : Nat} {a : Addr} {ds0 ds : List D} {d : D} {De : Ends} (ho : EvD K te ro ka (.val (.adr a)) k1) (h0 : k1[j0]? = some (a, .lst ds0)) (he : EvD K tf ro k1 (.val d) k2) (hj : k2[j]? = some (a, .lst ds)) (hz : ds.length < 100000)
    (k : Gp K B F0 ta De.nx ro (k2.set j (a, .lst (ds ++ [d])))) : Gp K B F0 ta (tDrop (tBM K "list" rAppend te (tCons tf tNil)) De) ro ka := fun sg H e => ho B F0 ta sg H _ e fun u H1 e1 => by
  have hu := e1.tm_adr List.mem_cons_self
  subst hu
  refine ⟨?_, he B F0 _ sg H1 _ e1 fun v H2 e2 => ?_⟩
  · obtain ⟨F, g, e1⟩ := e1
    obtain ⟨xs, hx, _⟩ := e1.rd_lst h0
    exact .inl ⟨rfl, xs, .inl (.inl hx)⟩
  · obtain ⟨F, g, e2⟩ := e2
    obtain ⟨xs, hx, rx⟩ := e2.rd_lst hj
    have hv := e2.tm _ List.mem_cons_self
    refine ⟨a, xs, v, rfl, rfl, hx, by rw [rpl_len rx]; exact Nat.lt_of_lt_of_le hz (by decide), k _ _ ⟨F, g, ?_⟩⟩
    exact (e2.write (o := .lst (xs ++ [v])) (n' := .lst (ds ++ [d])) hj ⟨_, upd_same, rpl_app rx ⟨v, [], rfl, hv, rfl⟩⟩).held fun p hp => List.mem_cons_of_mem _ (List.mem_cons_of_mem _ hp)
theorem q_app {j0 j : Nat} {a : Addr} {ds0 ds : List D} {d : D} {De : Ends} (ho : EvD K te ro ka (.val (.adr a)) k1) (h0 : k1[j0]? = some (a, .lst ds0)) (he : EvD K tf ro k1 (.val d) k2) (hj : k2[j]? = some (a, .lst ds)) (hz : ds.length < 100000)
    (k : Gp K B F0 ta (u De) ro (k2.set j (a, .lst (ds ++ [d])))) : Gp K B F0 ta (tSeq (tDrop (tBM K "list" rAppend te (tCons tf tNil))) u De) ro ka := g_app (De := { De with nx := u De }) ho h0 he hj hz k
/-- xs[i] = v -/
theorem g_seti {j : Nat} {a : Addr} {ds : List D} {d : D} {i : Int} {ix : Nat} {De : Ends} (he : EvD K tf ro ka (.val d) k1) (ho : EvD K te ro k1 (.val (.adr a)) k2) (hi : EvD K tg ro k2 (.val (.int i)) k3) (hj : k3[j]? = some (a, .lst ds)) (hx : ixN ds.length i = some ix)
    (k : Gp K B F0 ta De.nx ro (k3.set j (a, .lst (ds.set ix d)))) : Gp K B F0 ta (tAsg tf (gSub te tg rSetL) De) ro ka := fun sg H e => he B F0 ta sg H _ e fun v H1 e1 => ho B F0 _ sg H1 _ e1 fun u H2 e2 => hi B F0 _ sg H2 _ e2 fun i' H3 e3 => by
  have hu := e3.tm_adr (List.mem_cons_of_mem _ List.mem_cons_self)
  have hi' := e3.tm_int List.mem_cons_self
  subst hu hi'
  obtain ⟨F, g, e3⟩ := e3
  obtain ⟨xs, hxs, rx⟩ := e3.rd_lst hj
  have hv := e3.tm (v, .val d) (List.mem_cons_of_mem _ (List.mem_cons_of_mem _ List.mem_cons_self))
  refine ⟨a, xs, i, ix, rfl, rfl, hxs, by rw [rpl_len rx]; exact hx, k _ _ ⟨F, g, ?_⟩⟩
  exact (e3.write (o := .lst (xs.set ix v)) (n' := .lst (ds.set ix d)) hj ⟨_, upd_same, rpl_set ix rx hv⟩).held fun p hp => List.mem_cons_of_mem _ (List.mem_cons_of_mem _ (List.mem_cons_of_mem _ hp))
theorem q_seti {j : Nat} {a : Addr} {ds : List D} {d : D} {i : Int} {ix : Nat} {De : Ends} (he : EvD K tf ro ka (.val d) k1) (ho : EvD K te ro k1 (.val (.adr a)) k2) (hi : EvD K tg ro k2 (.val (.int i)) k3) (hj : k3[j]? = some (a, .lst ds)) (hx : ixN ds.length i = some ix)
    (k : Gp K B F0 ta (u De) ro (k3.set j (a, .lst (ds.set ix d)))) : Gp K B F0 ta (tSeq (tAsg tf (gSub te tg rSetL)) u De) ro ka := g_seti (De := { De with nx := u De }) he ho hi hj hx k

/-! ### what is walked -/
/-- wi walks through the items ws, while C holds of the cells -/
def EvI (K : PySem.W.Frag) (wi : TI) (ro : Ro) (ka : Cells) (ws : List W) (C : Cells → Prop) (ka' : Cells) : Prop := ∀ B F0 ta sg H (R : It → Hp → Prop), En K B F0 ro ka ta sg H →
  (∀ J ta' H', (∀ p ∈ ta, p ∈ ta') → En K B F0 ro ka' ta' sg H' →
    (∀ i w ro2 ka2 ta2 sg2 H2, ws[i]? = some w → C ka2 → (∀ p ∈ ta', p ∈ ta2) → En K B F0 ro2 ka2 ta2 sg2 H2 → J.go i H2 ∧ ∀ x H3, J.yld i H2 x H3 → En K B F0 ro2 ka2 ((x, w) :: ta2) sg2 H3) →
    (∀ i ro2 ka2 ta2 sg2 H2, ws.length ≤ i → C ka2 → (∀ p ∈ ta', p ∈ ta2) → En K B F0 ro2 ka2 ta2 sg2 H2 → J.stop i H2) → R J H') → wi sg H R
/-- the word between two turns -/
def Jp (K : PySem.W.Frag) (B F0 : Hp) (ta : List (V × W)) (Inv : Ro → Cells → Prop) : L2.St → Hp → Prop := fun sg H => ∃ ro ka, Inv ro ka ∧ En K B F0 ro ka ta sg H
theorem g_jp {Inv : Ro → Cells → Prop} (h : Inv ro ka) : Gp K B F0 ta (Jp K B F0 ta Inv) ro ka := fun sg H e => ⟨ro, ka, h, e⟩
theorem g_for {wi : TI} {ws : List W} {C : Cells → Prop} {g : TG} {tb : TS} {De : Ends} (h : EvI K wi ro ka ws C k1) (Inv : Nat → Ro → Cells → Prop) (h0 : Inv 0 ro k1) (hC : ∀ i ro2 ka2, Inv i ro2 ka2 → C ka2)
    (hs : ∀ i w ro2 ka2, ws[i]? = some w → Inv i ro2 ka2 → ∀ ta', Gp K B F0 ta' (fun sg H => ∀ x, En K B F0 ro2 ka2 ((x, w) :: ta') sg H → g x sg H fun sg2 H2 => tb { De with nx := Jp K B F0 ta' (Inv (i + 1)), ct := Jp K B F0 ta' (Inv (i + 1)), bk := De.nx } sg2 H2) ro2 ka2)
    (hd : ∀ ro2 ka2 ta', Inv ws.length ro2 ka2 → (∀ p ∈ ta, p ∈ ta') → Gp K B F0 ta' De.nx ro2 ka2) : Gp K B F0 ta (tFor wi g tb De) ro ka := fun sg H e =>
  h B F0 ta sg H _ e fun J ta' H1 hta e1 hgo hst => by
    refine ⟨fun i m sg H => m = ws.length - i ∧ i ≤ ws.length ∧ Jp K B F0 ta' (Inv i) sg H, ⟨ws.length, by simp, Nat.zero_le _, ro, k1, h0, e1⟩, ?_⟩
    rintro i m sg2 H2 ⟨rfl, hi, ro2, ka2, inv, e2⟩
    by_cases hlt : i < ws.length
    · obtain ⟨g1, g2⟩ := hgo i ws[i] ro2 ka2 ta' sg2 H2 (List.getElem?_eq_getElem hlt) (hC i ro2 ka2 inv) (fun p hp => hp) e2
      refine .inr ⟨g1, Jp K B F0 ta' (Inv (i + 1)), fun sg' H' q => ⟨ws.length - (i + 1), by omega, rfl, hlt, q⟩, fun x H3 y => ?_⟩
      have e3 := g2 x H3 y
      exact hs i ws[i] ro2 ka2 (List.getElem?_eq_getElem hlt) inv ta' sg2 H3 e3.pop x e3
    · have ei : i = ws.length := by omega
      subst ei
      exact .inl ⟨hst _ ro2 ka2 ta' sg2 H2 (Nat.le_refl _) (hC _ ro2 ka2 inv) (fun p hp => hp) e2, hd ro2 ka2 ta' inv hta sg2 H2 e2⟩
/-- .. the target a name -/
theorem g_forn {wi : TI} {ws : List W} {C : Cells → Prop} {j : Nat} {tb : TS} {De : Ends} (h : EvI K wi ro ka ws C k1) (Inv : Nat → Ro → Cells → Prop) (h0 : Inv 0 ro k1) (hC : ∀ i ro2 ka2, Inv i ro2 ka2 → C ka2)
    (hs : ∀ i w ro2 ka2 ta', ws[i]? = some w → Inv i ro2 ka2 → Gp K B F0 ta' (tb { De with nx := Jp K B F0 ta' (Inv (i + 1)), ct := Jp K B F0 ta' (Inv (i + 1)), bk := De.nx }) (ro2.set j (some w)) ka2)
    (hd : ∀ ro2 ka2 ta', Inv ws.length ro2 ka2 → (∀ p ∈ ta, p ∈ ta') → Gp K B F0 ta' De.nx ro2 ka2) : Gp K B F0 ta (tFor wi (gName j) tb De) ro ka :=
  g_for h Inv h0 hC (fun i w ro2 ka2 hw inv ta' sg H e x ex => hs i w ro2 ka2 ta' hw inv _ _ (ex.set j)) hd
theorem q_forn {wi : TI} {ws : List W} {C : Cells → Prop} {j : Nat} {tb : TS} {De : Ends} (h : EvI K wi ro ka ws C k1) (Inv : Nat → Ro → Cells → Prop) (h0 : Inv 0 ro k1) (hC : ∀ i ro2 ka2, Inv i ro2 ka2 → C ka2)
    (hs : ∀ i w ro2 ka2 ta', ws[i]? = some w → Inv i ro2 ka2 → Gp K B F0 ta' (tb { De with nx := Jp K B F0 ta' (Inv (i + 1)), ct := Jp K B F0 ta' (Inv (i + 1)), bk := u De }) (ro2.set j (some w)) ka2)
    (hd : ∀ ro2 ka2 ta', Inv ws.length ro2 ka2 → (∀ p ∈ ta, p ∈ ta') → Gp K B F0 ta' (u De) ro2 ka2) : Gp K B F0 ta (tSeq (tFor wi (gName j) tb) u De) ro ka := g_forn (De := { De with nx := u De }) h Inv h0 hC hs hd
/-- while: a word and a number that falls -/
theorem g_while {tb : TS} {De : Ends} (Inv : Nat → Ro → Cells → Prop) (m0 : Nat) (h0 : Inv m0 ro ka)
    (hs : ∀ m ro2 ka2, Inv m ro2 ka2 → ∃ b k2, EvT K tt ro2 ka2 b k2 ∧ (b = true → Gp K B F0 ta (tb { De with nx := Jp K B F0 ta (fun r k => ∃ m', m' < m ∧ Inv m' r k), ct := Jp K B F0 ta (fun r k => ∃ m', m' < m ∧ Inv m' r k), bk := De.nx }) ro2 k2) ∧ (b = false → Gp K B F0 ta De.nx ro2 k2)) :
    Gp K B F0 ta (tWhile tt tb De) ro ka := fun sg H e => by
  refine ⟨fun m sg H => Jp K B F0 ta (Inv m) sg H, ⟨m0, ro, ka, h0, e⟩, fun m sg2 H2 ⟨ro2, ka2, inv, e2⟩ => ?_⟩
  obtain ⟨b, k2, ht, h1, h2⟩ := hs m ro2 ka2 inv
  refine ht B F0 ta sg2 H2 _ e2 fun H3 e3 => ?_
  cases b with
  | true => exact ⟨_, fun sg' H' ⟨r, k, ⟨m', hm, inv'⟩, e'⟩ => ⟨m', hm, r, k, inv', e'⟩, h1 rfl _ _ e3⟩
  | false => exact h2 rfl _ _ e3
theorem q_while {tb : TS} {De : Ends} (Inv : Nat → Ro → Cells → Prop) (m0 : Nat) (h0 : Inv m0 ro ka)
    (hs : ∀ m ro2 ka2, Inv m ro2 ka2 → ∃ b k2, EvT K tt ro2 ka2 b k2 ∧ (b = true → Gp K B F0 ta (tb { De with nx := Jp K B F0 ta (fun r k => ∃ m', m' < m ∧ Inv m' r k), ct := Jp K B F0 ta (fun r k => ∃ m', m' < m ∧ Inv m' r k), bk := u De }) ro2 k2) ∧ (b = false → Gp K B F0 ta (u De) ro2 k2)) :
    Gp K B F0 ta (tSeq (tWhile tt tb) u De) ro ka := g_while (De := { De with nx := u De }) Inv m0 h0 hs

theorem ei_range1 {tr : TA} {m : Int} (h : EvA K tr ro ka [.val (.int m)] k1) (hm : m ≤ 1000000) (hm0 : -1000000 ≤ m) : EvI K (iRng1 tr) ro ka ((List.range m.toNat).map fun i : Nat => W.val (.int (i : Int))) (fun _ => True) k1 := fun B F0 ta sg H R e q =>
  h B F0 ta sg H _ e fun vs H1 hl e1 => by
    match vs, hl with
    | [v], _ =>
      have hv := e1.tm_int (v := v) (i := m) List.mem_cons_self
      subst hv
      refine ⟨m, rfl, by omega, by omega, q _ ta H1 (fun p hp => hp) (e1.held fun p hp => List.mem_append_right _ hp) (fun i w ro2 ka2 ta2 sg2 H2 hw _ _ e2 => ?_) fun i ro2 ka2 ta2 sg2 H2 hi _ _ _ => ?_⟩
      · rw [List.getElem?_map] at hw
        cases hi : (List.range m.toNat)[i]? with
        | none => rw [hi] at hw; cases hw
        | some j =>
          rw [hi] at hw
          obtain ⟨hlt, hj⟩ := List.getElem?_eq_some_iff.mp hi
          rw [List.getElem_range] at hj
          subst hj
          cases hw
          refine ⟨by show i < _; simpa using hlt, fun x H3 ⟨e3, ex⟩ => ?_⟩
          subst e3 ex
          exact e2.push_imm fun _ => by
            show V.int (0 + (i : Int)) = V.int (i : Int)
            rw [Int.zero_add]
      · rw [List.length_map, List.length_range] at hi
        exact hi
theorem ei_range2 {tr : TA} {l m : Int} (h : EvA K tr ro ka [.val (.int l), .val (.int m)] k1) (hm : m ≤ 1000000) (hm0 : -1000000 ≤ m) (hl0 : -1000000 ≤ l) (hl1 : l ≤ 1000000) : EvI K (iRng2 tr) ro ka ((List.range (m - l).toNat).map fun i : Nat => W.val (.int (l + (i : Int)))) (fun _ => True) k1 := fun B F0 ta sg H R e q =>
  h B F0 ta sg H _ e fun vs H1 hl e1 => by
    match vs, hl with
    | [v, v'], _ =>
      have hv := e1.tm_int (v := v) (i := l) List.mem_cons_self
      have hv' := e1.tm_int (v := v') (i := m) (List.mem_cons_of_mem _ List.mem_cons_self)
      subst hv hv'
      refine ⟨l, m, rfl, ⟨by omega, by omega, by omega, by omega⟩, q _ ta H1 (fun p hp => hp) (e1.held fun p hp => List.mem_append_right _ hp) (fun i w ro2 ka2 ta2 sg2 H2 hw _ _ e2 => ?_) fun i ro2 ka2 ta2 sg2 H2 hi _ _ _ => ?_⟩
      · rw [List.getElem?_map] at hw
        cases hi : (List.range (m - l).toNat)[i]? with
        | none => rw [hi] at hw; cases hw
        | some j =>
          rw [hi] at hw
          obtain ⟨hlt, hj⟩ := List.getElem?_eq_some_iff.mp hi
          rw [List.getElem_range] at hj
          subst hj
          cases hw
          refine ⟨by show i < _; simpa using hlt, fun x H3 ⟨e3, ex⟩ => ?_⟩
          subst e3 ex
          exact e2.push_imm fun _ => rfl
      · rw [List.length_map, List.length_range] at hi
        exact hi
end

/-! ### any sequence walked -/
/-- lists, tuples, texts -/
def iSeq (K : PySem.W.Frag) (tl : TE) : TI := fun sg H R => iList K tl sg H R ∨ iTup K tl sg H R ∨ iStr tl sg H R
theorem pi_seq {X : Cx} {tg : Expr} {l : Expr} {tl : TE} (hl : PE X l tl) : PI X tg l (iSeq X.K tl) :=
  ⟨fun pins s sg H R I h => h.elim ((pi_list hl).run pins s sg H R I) fun h => h.elim ((pi_tup hl).run pins s sg H R I) ((pi_str hl).run pins s sg H R I)⟩
section
variable {K : PySem.W.Frag} {ro : Ro} {ka k1 : Cells} {te : TE} {w : W}
/-- the cell that is walked stays -/
def Stay (w : W) (ds : List D) (ka : Cells) : Prop := match w with
  | .val (.adr a) => (a, Nd.lst ds) ∈ ka
  | _ => True
theorem Lk.mono {ka : Cells} {t b : Bool} {ds : List D} (l : Lk ka w t ds b) (ka2 : Cells) (h : Stay w ds ka2) : Lk ka2 w t ds b := by
  cases l with
  | vl => exact .vl
  | vt => exact .vt
  | wl => exact .wl
  | wt => exact .wt
  | ce j hj =>
    obtain ⟨j2, h2⟩ := List.getElem?_of_mem h
    exact .ce j2 h2
theorem ei_seq {t b : Bool} {ds : List D} (h : EvD K te ro ka w k1) (l : Lk k1 w t ds b) : EvI K (iSeq K te) ro ka (ds.map (part b)) (Stay w ds) k1 := fun B F0 ta sg H R e q => by
  have again : ∀ (a : Addr) ro2 ka2 ta2 sg2 H2, Stay w ds ka2 → (V.ref a, w) ∈ ta2 → En K B F0 ro2 ka2 ta2 sg2 H2 → ∃ F ys, EnF K B F ro2 ka2 ta2 sg2 H2 ∧ Gr B F0 F ∧ SqB K t H2 a ys ∧ RpL K (if b then uni B F else F) ds ys := fun a ro2 ka2 ta2 sg2 H2 hs hm e2 => by
    obtain ⟨F, g, e2⟩ := e2
    obtain ⟨a', ys, e', s2, r2⟩ := (l.mono ka2 hs).get e2 (e2.tm _ hm)
    cases e'
    exact ⟨F, ys, e2, g, s2, r2⟩
  have item : ∀ {i : Nat} {w2 : W} {F : Hp} {ys : List V}, (ds.map (part b))[i]? = some w2 → RpL K (if b then uni B F else F) ds ys → ∃ y, ys[i]? = some y ∧ WOk K B F y w2 := fun {i w2 F ys} hw r2 => by
    rw [List.getElem?_map] at hw
    cases hd : ds[i]? with
    | none => rw [hd] at hw; cases hw
    | some d =>
      rw [hd] at hw
      cases hw
      obtain ⟨y, hy, ry⟩ := rpl_get r2 hd
      exact ⟨y, hy, wok_part b ry⟩
  cases t with
  | true =>
    refine .inr (.inl (h B F0 ta sg H _ e fun v H1 e1 => ?_))
    obtain ⟨F, g, ef⟩ := id e1
    obtain ⟨a, xs, rfl, s1, r1⟩ := l.get ef (ef.tm _ List.mem_cons_self)
    refine ⟨a, rfl, ⟨xs, s1⟩, q _ ((.ref a, w) :: ta) H1 (fun p hp => List.mem_cons_of_mem _ hp) e1 (fun i w2 ro2 ka2 ta2 sg2 H2 hw hs hm e2 => ?_) fun i ro2 ka2 ta2 sg2 H2 hi hs hm e2 => ?_⟩
    · obtain ⟨F2, ys, ef2, g2, s2, r2⟩ := again a ro2 ka2 ta2 sg2 H2 hs (hm _ List.mem_cons_self) e2
      obtain ⟨y, hy, wy⟩ := item hw r2
      refine ⟨⟨ys, y, s2, hy⟩, fun x H3 ⟨e3, ex⟩ => ?_⟩
      subst e3
      have h5 := ex ys s2
      rw [hy] at h5
      cases h5
      exact ⟨F2, g2, ef2.push wy⟩
    · obtain ⟨F2, ys, ef2, g2, s2, r2⟩ := again a ro2 ka2 ta2 sg2 H2 hs (hm _ List.mem_cons_self) e2
      refine ⟨ys, s2, ?_⟩
      rw [rpl_len r2]
      rwa [List.length_map] at hi
  | false =>
    refine .inl (h B F0 ta sg H _ e fun v H1 e1 => ?_)
    obtain ⟨F, g, ef⟩ := id e1
    obtain ⟨a, xs, rfl, s1, r1⟩ := l.get ef (ef.tm _ List.mem_cons_self)
    refine ⟨a, rfl, ⟨xs, .inl s1⟩, q _ ((.ref a, w) :: ta) H1 (fun p hp => List.mem_cons_of_mem _ hp) e1 (fun i w2 ro2 ka2 ta2 sg2 H2 hw hs hm e2 => ?_) fun i ro2 ka2 ta2 sg2 H2 hi hs hm e2 => ?_⟩
    · obtain ⟨F2, ys, ef2, g2, s2, r2⟩ := again a ro2 ka2 ta2 sg2 H2 hs (hm _ List.mem_cons_self) e2
      obtain ⟨y, hy, wy⟩ := item hw r2
      refine ⟨⟨ys, y, .inl s2, hy⟩, fun x H3 ⟨e3, ex⟩ => ?_⟩
      subst e3
      have h5 := ex ys (.inl s2)
      rw [hy] at h5
      cases h5
      exact ⟨F2, g2, ef2.push wy⟩
    · obtain ⟨F2, ys, ef2, g2, s2, r2⟩ := again a ro2 ka2 ta2 sg2 H2 hs (hm _ List.mem_cons_self) e2
      refine ⟨ys, .inl s2, ?_⟩
      rw [rpl_len r2]
      rwa [List.length_map] at hi
theorem ei_str {s : Str} (h : EvD K te ro ka (.val (.str s)) k1) : EvI K (iSeq K te) ro ka (s.cps.toList.map fun c => W.val (.str ⟨#[c]⟩)) (fun _ => True) k1 := fun B F0 ta sg H R e q =>
  .inr (.inr (h B F0 ta sg H _ e fun v H1 e1 => by
    have hv := e1.tm_str List.mem_cons_self
    subst hv
    refine ⟨s, rfl, q _ ta H1 (fun p hp => hp) e1.pop (fun i w2 ro2 ka2 ta2 sg2 H2 hw _ hm e2 => ?_) fun i ro2 ka2 ta2 sg2 H2 hi _ hm e2 => ?_⟩
    · rw [List.getElem?_map] at hw
      cases hd : s.cps.toList[i]? with
      | none => rw [hd] at hw; cases hw
      | some c =>
        rw [hd] at hw
        cases hw
        have hc : s.cps[i]? = some c := by simpa using hd
        refine ⟨(Array.getElem?_eq_some_iff.mp hc).1, fun x H3 ⟨e3, c', hc', ex⟩ => ?_⟩
        subst e3 ex
        rw [hc] at hc'
        cases hc'
        exact e2.push_imm fun _ => rfl
    · show s.cps.size ≤ i
      simpa using hi))
end
end DL

/-! DT: frames, calls, comprehensions by data (own work). -/
namespace DL
open PySem L2

section
variable {K : PySem.W.Frag} {B B' F F' F0 : Hp} {ro : Ro} {ka k1 k2 k3 kr : Cells} {ta : List (V × W)} {sg : L2.St} {H H' : Hp} {te tf tg : TE} {tl th : TO} {tr : TA} {tt : TT} {w x y z : W} {n : Nd}

/-- H without the cells of kf -/
def off (H : Hp) (kf : Cells) : Hp := fun a => if a ∈ kf.map (·.1) then none else H a
theorem off_in {kf : Cells} {a : Addr} (h : a ∈ kf.map (·.1)) : off H kf a = none := if_pos h
theorem off_out {kf : Cells} {a : Addr} (h : a ∉ kf.map (·.1)) : off H kf a = H a := if_neg h
theorem off_some {kf : Cells} {a : Addr} {o : HO} (h : off H kf a = some o) : a ∉ kf.map (·.1) ∧ H a = some o := by
  unfold off at h
  split at h
  · cases h
  · rename_i q
    exact ⟨q, h⟩
theorem EnF.sub_off (e : EnF K B F ro ka ta sg H) {kf : Cells} (hk : ∀ p ∈ kf, p ∈ ka) : Sub B (off H kf) := fun a o h => by
  have na : a ∉ kf.map (·.1) := fun hm => by
    obtain ⟨p, hp, rfl⟩ := List.mem_map.mp hm
    have := (e.ce p (hk p hp)).2.1
    rw [this] at h
    cases h
  rw [off_out na]
  exact e.fr a o h
theorem uni_subB {B B' F : Hp} (h : Sub B B') : Sub (uni B F) (uni B' F) := fun a u q => by
  unfold uni at q ⊢
  cases hf : F a with
  | some o => rw [hf] at q; exact q
  | none =>
    rw [hf] at q
    cases hb : B a with
    | none => rw [hb] at q; cases q
    | some o => rw [hb] at q; rw [h a o hb]; exact q
theorem wok_subB (n : Nz F) (h : Sub B B') {v : V} {w : W} (q : WOk K B F v w) : WOk K B' F v w := by
  cases w with
  | val d => exact q
  | vw d => exact Rp.mono (uni_subB h).exz (uni_nz n) d v q
/-- the part of a state that a part of the text works on: the cells kf, all else as it stands -/
theorem EnF.into (e : EnF K B F ro (ka ++ kr) ta sg H) {ro' : Ro} {sg' : L2.St} {ta' : List (V × W)} (hl : sg'.length = ro'.length) (hs : ∀ (i : Nat) w, ro'[i]? = some (some w) → ∃ v, sg'[i]? = some (some v) ∧ WOk K B F v w) (ht : ∀ p ∈ ta', p ∈ ta) :
    EnF K (off H ka) F ro' ka ta' sg' H := by
  have hsub : Sub B (off H ka) := e.sub_off fun p hp => List.mem_append_left _ hp
  have nd := e.nd
  rw [List.map_append, List.nodup_append] at nd
  refine ⟨e.nz, e.fz, fun a o h => (off_some h).2, nd.1, fun p hp => ?_, hl, fun i w h => ?_, fun p hp => wok_subB e.nz hsub (e.tm p (ht p hp))⟩
  · obtain ⟨h1, h2, h3⟩ := e.ce p (List.mem_append_left _ hp)
    exact ⟨h1, off_in (List.mem_map.mpr ⟨p, hp, rfl⟩), h3⟩
  · obtain ⟨v, h1, h2⟩ := hs i w h
    exact ⟨v, h1, wok_subB e.nz hsub h2⟩
/-- .. and back -/
theorem EnF.back (e : EnF K B F ro (ka ++ kr) ta sg H) (g : Gr (off H ka) F F') {ro' : Ro} {sg' : L2.St} {ta' : List (V × W)} (e' : EnF K (off H ka) F' ro' k2 ta' sg' H') {tb : List (V × W)} (hb : ∀ p ∈ tb, p ∈ ta ∨ ∃ d, p.2 = .val d ∧ p ∈ ta') :
    Gr B F F' ∧ EnF K B F' ro (k2 ++ kr) tb sg H' := by
  have hsub : Sub B (off H ka) := e.sub_off fun p hp => List.mem_append_left _ hp
  have gg : Gr B F F' := ⟨g.sub, fun a h1 h2 => g.off a h1 fun q => by
    cases hb2 : B a with
    | none => exact h2 hb2
    | some o => rw [hsub a o hb2] at q; cases q⟩
  have nd := e.nd
  rw [List.map_append, List.nodup_append] at nd
  -- the cells that were left stand off what was worked on
  have left : ∀ p ∈ kr, off H ka p.1 ≠ none ∧ H' p.1 = H p.1 := fun p hp => by
    obtain ⟨h1, h2, h3⟩ := e.ce p (List.mem_append_right _ hp)
    have hn : p.1 ∉ ka.map (·.1) := fun hm => nd.2.2 _ hm _ (List.mem_map.mpr ⟨p, hp, rfl⟩) rfl
    cases q : H p.1 with
    | none => exact absurd q (ndok_ne h3)
    | some o =>
      have ho : off H ka p.1 = some o := by rw [off_out hn]; exact q
      exact ⟨by rw [ho]; exact fun z => (by cases z), e'.fr _ _ ho⟩
  refine ⟨gg, e'.nz, e'.fz, hsub.trans e'.fr, ?_, fun p hp => ?_, e.ln, fun i w h => ?_, fun p hp => ?_⟩
  · rw [List.map_append, List.nodup_append]
    refine ⟨e'.nd, nd.2.1, fun a ha b hb => ?_⟩
    obtain ⟨p, hp, rfl⟩ := List.mem_map.mp ha
    obtain ⟨q, hq, rfl⟩ := List.mem_map.mp hb
    intro z
    exact (left q hq).1 (z ▸ (e'.ce p hp).2.1)
  · rcases List.mem_append.mp hp with hp | hp
    · obtain ⟨h1, h2, h3⟩ := e'.ce p hp
      refine ⟨h1, ?_, h3⟩
      cases q : B p.1 with
      | none => rfl
      | some o => rw [hsub _ _ q] at h2; cases h2
    · obtain ⟨h1, h2, h3⟩ := e.ce p (List.mem_append_right _ hp)
      obtain ⟨l1, l2⟩ := left p hp
      exact ⟨g.off _ h1 l1, h2, ndok_at l2 (ndok_gr e.nz gg h3)⟩
  · obtain ⟨v, h1, h2⟩ := e.sl i w h
    exact ⟨v, h1, wok_gr e.nz gg h2⟩
  · rcases hb p hp with q | ⟨d, hd, q⟩
    · exact wok_gr e.nz gg (e.tm p q)
    · have h2 := e'.tm p q
      rw [hd] at h2 ⊢
      exact h2

/-! ### frames -/
theorem EvD.fr {d : D} (h : EvD K te ro ka (.val d) k2) (kr : Cells) : EvD K te ro (ka ++ kr) (.val d) (k2 ++ kr) := fun B F0 ta sg H Q e q => by
  obtain ⟨F, g, e⟩ := e
  refine h (off H ka) F ta sg H Q ⟨F, Gr.refl _ _, e.into e.ln e.sl fun p hp => hp⟩ fun v H' ⟨F', g', e'⟩ => ?_
  obtain ⟨g2, e2⟩ := e.back g' e' (tb := (v, .val d) :: ta) fun p hp => by
    rcases List.mem_cons.mp hp with rfl | hp
    · exact .inr ⟨d, rfl, List.mem_cons_self⟩
    · exact .inl hp
  exact q v H' ⟨F', g.trans g2, e2⟩
theorem EvT.fr {b : Bool} (h : EvT K tt ro ka b k2) (kr : Cells) : EvT K tt ro (ka ++ kr) b (k2 ++ kr) := fun B F0 ta sg H Q e q => by
  obtain ⟨F, g, e⟩ := e
  refine h (off H ka) F ta sg H Q ⟨F, Gr.refl _ _, e.into e.ln e.sl fun p hp => hp⟩ fun H' ⟨F', g', e'⟩ => ?_
  obtain ⟨g2, e2⟩ := e.back g' e' (tb := ta) fun p hp => .inl hp
  exact q H' ⟨F', g.trans g2, e2⟩
theorem En.perm (e : En K B F0 ro ka ta sg H) (h : k1.Perm ka) : En K B F0 ro k1 ta sg H :=
  let ⟨F, g, q⟩ := e
  ⟨F, g, q.perm h⟩
theorem EvN.fr {m : Nd} (h : EvN K te ro ka m k2) (kr : Cells) : EvN K te ro (ka ++ kr) m (k2 ++ kr) := fun B F0 ta sg H Q e q => by
  obtain ⟨F, g, e⟩ := e
  refine h (off H ka) F ta sg H Q ⟨F, Gr.refl _ _, e.into e.ln e.sl fun p hp => hp⟩ fun a H' ⟨F', g', e'⟩ => ?_
  obtain ⟨g2, e2⟩ := e.back g' e' (tb := ta) fun p hp => .inl hp
  refine q a H' ⟨F', g.trans g2, e2.perm ?_⟩
  rw [List.append_assoc, List.append_assoc]
  exact List.Perm.append_left _ List.perm_append_comm

/-! ### calls -/
/-- a call that comes back -/
theorem sp_ret {C : Ct} {ws : List W} {out : Out → Cells → Prop} {vs : List V} {E : XK} {Q : VK} {d : D} (e : En K B F0 ro (ka ++ kr) (vs.zip ws ++ ta) sg H) (hl : vs.length = ws.length) (hC : C ws ka out) (ho : ∀ o k, out o k → o = .ret d ∧ k = k2)
    (q : ∀ v H', En K B F0 ro (k2 ++ kr) ((v, .val d) :: ta) sg H' → Q v H') : spC K C vs H Q E := by
  obtain ⟨F, g, e⟩ := e
  refine ⟨off H ka, F, ws, ka, out, hC, hl, ⟨F, Gr.refl _ _, e.into (ro' := []) (sg' := []) (ta' := vs.zip ws) rfl (fun i w h => by simp at h) fun p hp => List.mem_append_left _ hp⟩, fun d' k v H' o ⟨F', g', e'⟩ => ?_, fun C fs k dx H' o _ => ?_, fun C k H' o _ => ?_⟩
  · obtain ⟨hd, rfl⟩ := ho _ _ o
    cases hd
    obtain ⟨g2, e2⟩ := e.back g' e' (tb := (v, .val d) :: ta) fun p hp => by
      rcases List.mem_cons.mp hp with rfl | hp
      · exact .inr ⟨d, rfl, List.mem_cons_self⟩
      · exact .inl (List.mem_append_right _ hp)
    exact q v H' ⟨F', g.trans g2, e2⟩
  · have := (ho _ _ o).1
    cases this
  · have := (ho _ _ o).1
    cases this
/-- .. the cells that it works on ahead of others -/
theorem ev_callF {C : Ct} {ws : List W} {out : Out → Cells → Prop} {E : XK} {d : D} (kr : Cells) (ha : EvA K tr ro ka ws (k1 ++ kr)) (hC : C ws k1 out) (ho : ∀ o k, out o k → o = .ret d ∧ k = k2) : EvD K (tCall (spC K C) [] E tr) ro ka (.val d) (k2 ++ kr) := fun B F0 ta sg H Q e q =>
  ha B F0 ta sg H _ e fun vs H1 hl e1 => by
    rw [List.append_nil]
    exact sp_ret e1 hl hC ho q
/-! ### comprehensions -/
def wipeR (ro : Ro) : List Nat → Ro
  | [] => ro
  | v :: vs => (wipeR ro vs).set v none
theorem wipe_en : ∀ {vs : List Nat}, EnF K B F ro ka ta sg H → EnF K B F (wipeR ro vs) ka ta (wipe sg vs) H
  | [], e => e
  | v :: vs, e => by
    have e1 := wipe_en (vs := vs) e
    refine e1.frame (by show (List.set _ _ _).length = (List.set _ _ _).length; rw [List.length_set, List.length_set, e1.ln]) fun i w h => ?_
    show ∃ v', ((wipe sg vs).set v none)[i]? = some (some v') ∧ _
    have h' : ((wipeR ro vs).set v none)[i]? = some (some w) := h
    by_cases hi : v = i
    · subst hi
      have hlt : v < (wipeR ro vs).length := by
        have := (List.getElem?_eq_some_iff.mp h').1
        rwa [List.length_set] at this
      rw [List.getElem?_set_self hlt] at h'
      cases h'
    · rw [List.getElem?_set_ne hi] at h' ⊢
      exact e1.sl i w h'
theorem wipe_set (sg : L2.St) (vs : List Nat) {j : Nat} (hj : j ∈ vs) (v : V) : wipe ((wipe sg vs).set j (some v)) vs = wipe sg vs := by
  have key : ∀ (vs : List Nat) (s t : L2.St), s.length = t.length → (∀ i : Nat, i ∉ vs → s[i]? = t[i]?) → wipe s vs = wipe t vs := by
    intro vs
    induction vs with
    | nil =>
      intro s t hl h
      exact List.ext_getElem? fun i => h i (by simp)
    | cons a vs ih =>
      intro s t hl h
      show (wipe s vs).set a none = (wipe t vs).set a none
      apply List.ext_getElem?
      intro i
      by_cases hi : a = i
      · subst hi
        rw [List.getElem?_set, List.getElem?_set, wipe_length, wipe_length, hl, if_pos rfl, if_pos rfl]
      · rw [List.getElem?_set_ne hi, List.getElem?_set_ne hi]
        have gen : ∀ (vs : List Nat) (s t : L2.St), s.length = t.length → ∀ i : Nat, s[i]? = t[i]? → (wipe s vs)[i]? = (wipe t vs)[i]? := by
          intro vs
          induction vs with
          | nil => intro s t _ i h; exact h
          | cons b vs ih2 =>
            intro s t hl i h
            show ((wipe s vs).set b none)[i]? = ((wipe t vs).set b none)[i]?
            rw [List.getElem?_set, List.getElem?_set, wipe_length, wipe_length, hl, ih2 s t hl i h]
        by_cases hv : i ∈ vs
        · have wn : ∀ (vs : List Nat) (s : L2.St) (i : Nat), i ∈ vs → i < s.length → (wipe s vs)[i]? = some none := by
            intro vs
            induction vs with
            | nil => intro s i h; simp at h
            | cons b vs ih2 =>
              intro s i h hlt
              show ((wipe s vs).set b none)[i]? = some none
              by_cases hb : b = i
              · subst hb
                rw [List.getElem?_set_self (by rw [wipe_length]; exact hlt)]
              · rw [List.getElem?_set_ne hb]
                rcases List.mem_cons.mp h with q | q
                · exact absurd q.symm hb
                · exact ih2 s i q hlt
          by_cases hlt : i < s.length
          · rw [wn vs s i hv hlt, wn vs t i hv (hl ▸ hlt)]
          · rw [List.getElem?_eq_none (by rw [wipe_length]; omega), List.getElem?_eq_none (by rw [wipe_length]; omega)]
        · exact gen vs s t hl i (h i (by simp [Ne.symm hi, hv]))
  have idem : ∀ (vs : List Nat) (s : L2.St), wipe (wipe s vs) vs = wipe s vs := fun vs s => key vs _ _ (wipe_length _ _) fun i hi => by
    have gen : ∀ (us : List Nat) (s : L2.St), i ∉ us → (wipe s us)[i]? = s[i]? := by
      intro us
      induction us with
      | nil => intro s _; rfl
      | cons b us ih2 =>
        intro s h
        show ((wipe s us).set b none)[i]? = s[i]?
        rw [List.getElem?_set_ne (fun q => h (by simp [q])), ih2 s fun q => h (List.mem_cons_of_mem _ q)]
    exact gen vs s hi
  have e1 : wipe ((wipe sg vs).set j (some v)) vs = wipe (wipe sg vs) vs := key vs _ _ (by rw [List.length_set]) fun i hi => by
    have hne : j ≠ i := fun q => hi (q ▸ hj)
    exact List.getElem?_set_ne hne
  rw [e1, idem]
/-- a new cell of which R tells -/
def EvNR (K : PySem.W.Frag) (te : TE) (ro : Ro) (ka : Cells) (R : Nd → Cells → Prop) : Prop := ∀ B F0 ta sg H (Q : VK), En K B F0 ro ka ta sg H → (∀ n k a H', R n k → En K B F0 ro (k ++ [(a, n)]) ta sg H' → Q (.ref a) H') → te sg H Q
/-- [e for x in .. if ..]: what is told of the list -/
theorem evr_lc {wi : TI} {ws : List W} {C : Cells → Prop} {j : Nat} {vs : List Nat} (h : EvI K wi ro ka ws C k1) (hj : j ∈ vs) (hn : ws.length ≤ 1000000) (Inv : Nat → List D → Cells → Prop) (h0 : Inv 0 [] k1) (hC : ∀ i acc k, Inv i acc k → C k ∧ ∀ x, C (k ++ [x]))
    (hs : ∀ i w acc k, ws[i]? = some w → Inv i acc k → (∃ k2, EvT K tt ((wipeR ro vs).set j (some w)) k false k2 ∧ Inv (i + 1) acc k2) ∨ ∃ k2 k3 d, EvT K tt ((wipeR ro vs).set j (some w)) k true k2 ∧ EvD K te ((wipeR ro vs).set j (some w)) k2 (.val d) k3 ∧ Inv (i + 1) (acc ++ [d]) k3)
    : EvNR K (tLc wi (gName j) tt te vs) ro ka (fun n k => ∃ acc, n = .lst acc ∧ Inv ws.length acc k) := fun B F0 ta sg H Q e q =>
  h B F0 ta sg H _ e fun J ta' H1 hta e1 hgo hst => fun Dl hD => by
    -- the word: the list so far is the last cell
    let P : Nat → Hp → Prop := fun i H => ∃ acc k, Inv i acc k ∧ acc.length ≤ i ∧ En K B F0 ro (k ++ [(Dl, .lst acc)]) ta' sg H
    have p0 : P 0 (upd H1 Dl (.lst [])) := by
      obtain ⟨F, g, e1⟩ := e1
      exact ⟨[], k1, h0, Nat.le_refl _, F, g, e1.cell (o := .lst []) hD (n := .lst []) ⟨[], upd_same, rfl⟩⟩
    refine ⟨fun i m H => m = ws.length - i ∧ i ≤ ws.length ∧ P i H, ⟨ws.length, by simp, Nat.zero_le _, p0⟩, ?_⟩
    rintro i m H2 ⟨rfl, hi, acc, k, inv, hlen, e2⟩
    by_cases hlt : i < ws.length
    · have hw := List.getElem?_eq_getElem hlt
      obtain ⟨g1, g2⟩ := hgo i ws[i] ro (k ++ [(Dl, .lst acc)]) ta' sg H2 hw ((hC i acc k inv).2 _) (fun p hp => hp) e2
      refine .inr ⟨g1, P (i + 1), fun H' p => ⟨ws.length - (i + 1), by omega, rfl, hlt, p⟩, fun x H3 y => ?_⟩
      have e3 := g2 x H3 y
      refine ⟨wipe_set sg vs hj x, ?_⟩
      -- within the block
      have e4 : En K B F0 ((wipeR ro vs).set j (some ws[i])) (k ++ [(Dl, .lst acc)]) ta' ((wipe sg vs).set j (some x)) H3 := by
        obtain ⟨F, g, e3⟩ := e3
        exact ⟨F, g, ((wipe_en (vs := vs) e3).set (e3.tm _ List.mem_cons_self) j).held fun p hp => List.mem_cons_of_mem _ hp⟩
      -- and back out of it
      have out : ∀ {k : Cells} {ta2 : List (V × W)} {H : Hp}, (∃ F, Gr B F0 F ∧ EnF K B F ((wipeR ro vs).set j (some ws[i])) k ta2 ((wipe sg vs).set j (some x)) H ∧ ∀ (a : Nat) w, ro[a]? = some (some w) → ∃ v, sg[a]? = some (some v) ∧ WOk K B F v w) → En K B F0 ro k ta2 sg H := fun ⟨F, g, q, hs⟩ => ⟨F, g, q.frame (by obtain ⟨_, _, e0⟩ := e; exact e0.ln) hs⟩
      obtain ⟨F3, gF3, eF3⟩ := e3
      have slots : ∀ {F : Hp}, Gr B F3 F → ∀ (a : Nat) w, ro[a]? = some (some w) → ∃ v, sg[a]? = some (some v) ∧ WOk K B F v w := fun {F} g a w ha => by
        obtain ⟨v, h1, h2⟩ := eF3.sl a w ha
        exact ⟨v, h1, wok_gr eF3.nz g h2⟩
      have e4' : En K B F3 ((wipeR ro vs).set j (some ws[i])) (k ++ [(Dl, .lst acc)]) ta' ((wipe sg vs).set j (some x)) H3 :=
        ⟨F3, Gr.refl _ _, ((wipe_en (vs := vs) eF3).set (eF3.tm _ List.mem_cons_self) j).held fun p hp => List.mem_cons_of_mem _ hp⟩
      rcases hs i ws[i] acc k hw inv with ⟨k2, t1, inv2⟩ | ⟨k2, k3, d, t1, t2, inv2⟩
      · refine t1.fr [(Dl, .lst acc)] B F3 ta' _ H3 _ e4' fun H4 ⟨F4, g4, e5⟩ => ?_
        exact ⟨acc, k2, inv2, Nat.le_succ_of_le hlen, out ⟨F4, gF3.trans g4, e5, slots g4⟩⟩
      · refine t1.fr [(Dl, .lst acc)] B F3 ta' _ H3 _ e4' fun H4 e5 => ?_
        refine t2.fr [(Dl, .lst acc)] B F3 ta' _ H4 _ e5 fun v H5 ⟨F5, g5, e6⟩ => ?_
        have hx : (k3 ++ [(Dl, Nd.lst acc)])[k3.length]? = some (Dl, Nd.lst acc) := by simp
        obtain ⟨xs, h1, h2⟩ := e6.rd_lst hx
        have hv := e6.tm _ List.mem_cons_self
        have e7 := e6.write (o := .lst (xs ++ [v])) (n' := .lst (acc ++ [d])) hx ⟨_, upd_same, rpl_app h2 ⟨v, [], rfl, hv, rfl⟩⟩
        have hset : (k3 ++ [(Dl, Nd.lst acc)]).set k3.length (Dl, Nd.lst (acc ++ [d])) = k3 ++ [(Dl, Nd.lst (acc ++ [d]))] := by
          rw [List.set_append_right _ _ (Nat.le_refl _)]
          simp
        rw [hset] at e7
        refine ⟨xs, h1, by rw [rpl_len h2]; exact Nat.lt_of_le_of_lt (Nat.le_trans hlen (Nat.le_trans hi hn)) (by decide), acc ++ [d], k3, inv2, by rw [List.length_append]; exact Nat.succ_le_succ hlen, ?_⟩
        exact out ⟨F5, gF3.trans g5, e7.held fun p hp => List.mem_cons_of_mem _ hp, slots g5⟩
    · have ei : i = ws.length := by omega
      subst ei
      refine .inl ⟨hst _ ro (k ++ [(Dl, .lst acc)]) ta' sg H2 (Nat.le_refl _) ((hC _ acc k inv).2 _) (fun p hp => hp) e2, ?_⟩
      exact q _ _ Dl H2 ⟨acc, rfl, inv⟩ (e2.held hta)
/-- [e for x in .. if ..] -/
theorem evn_lc {wi : TI} {ws : List W} {C : Cells → Prop} {j : Nat} {vs : List Nat} (h : EvI K wi ro ka ws C k1) (hj : j ∈ vs) (hn : ws.length ≤ 1000000) (Inv : Nat → List D → Cells → Prop) (h0 : Inv 0 [] k1) (hC : ∀ i acc k, Inv i acc k → C k ∧ ∀ x, C (k ++ [x]))
    (hs : ∀ i w acc k, ws[i]? = some w → Inv i acc k → (∃ k2, EvT K tt ((wipeR ro vs).set j (some w)) k false k2 ∧ Inv (i + 1) acc k2) ∨ ∃ k2 k3 d, EvT K tt ((wipeR ro vs).set j (some w)) k true k2 ∧ EvD K te ((wipeR ro vs).set j (some w)) k2 (.val d) k3 ∧ Inv (i + 1) (acc ++ [d]) k3)
    {ds : List D} {kz : Cells} (hd : ∀ acc k, Inv ws.length acc k → acc = ds ∧ k = kz) : EvN K (tLc wi (gName j) tt te vs) ro ka (.lst ds) kz := fun B F0 ta sg H Q e q => evr_lc h hj hn Inv h0 hC hs B F0 ta sg H Q e fun n k a H' ⟨acc, hn', inv⟩ e' => by
  subst hn'
  obtain ⟨rfl, rfl⟩ := hd acc k inv
  exact q a H' e'
end
end DL

/-! DE: equality of data (own work). -/
namespace DL
open PySem L2 PySem.SeqAt

mutual
def eqD : D → D → Bool
  | .non, .non => true
  | .bl a, .bl b => a == b
  | .bl a, .int j => (if a then 1 else 0) == j
  | .int i, .bl b => i == (if b then 1 else 0)
  | .int i, .int j => i == j
  | .str x, .str y => x == y
  | .lst xs, .lst ys => eqL xs ys
  | .tup xs, .tup ys => eqL xs ys
  | _, _ => false
def eqL : List D → List D → Bool
  | [], [] => true
  | x :: xs, y :: ys => eqD x y && eqL xs ys
  | _, _ => false
end
/-- plain data: numbers, texts, lists and tuples of these, at most n deep -/
def pl : Nat → D → Bool
  | _, .non => true
  | _, .bl _ => true
  | _, .int _ => true
  | _, .str _ => true
  | n + 1, .lst ds => ds.all (pl n)
  | n + 1, .tup ds => ds.all (pl n)
  | _, _ => false
theorem eqL_len : ∀ {xs ys : List D}, eqL xs ys = true → xs.length = ys.length
  | [], [], _ => rfl
  | [], _ :: _, h => by cases h
  | _ :: _, [], h => by cases h
  | x :: xs, y :: ys, h => by
    have h2 := (Bool.and_eq_true_iff.mp (show (eqD x y && eqL xs ys) = true from h)).2
    rw [List.length_cons, List.length_cons, eqL_len h2]
theorem eqL_ne {xs ys : List D} (h : xs.length ≠ ys.length) : eqL xs ys = false := by
  cases q : eqL xs ys with
  | false => rfl
  | true => exact absurd (eqL_len q) h
/-- equal item by item -/
theorem eqL_all : ∀ (xs ys : List D), xs.length = ys.length → eqL xs ys = (List.range xs.length).all fun j => eqD (xs.getD j .non) (ys.getD j .non)
  | [], [], _ => rfl
  | [], _ :: _, h => by cases h
  | _ :: _, [], h => by cases h
  | x :: xs, y :: ys, h => by
    have ih := eqL_all xs ys (by simpa using h)
    show (eqD x y && eqL xs ys) = _
    rw [ih, List.length_cons, List.range_succ_eq_map, List.all_cons, List.all_map]
    rfl
theorem eqD_refl (n : Nat) : ∀ (d : D), pl n d = true → eqD d d = true := by
  induction n with
  | zero =>
    intro d h
    cases d <;> first | rfl | exact beq_self_eq_true _ | cases h
  | succ n ih =>
    have hl : ∀ ds : List D, ds.all (pl n) = true → eqL ds ds = true := by
      intro ds
      induction ds with
      | nil => intro _; rfl
      | cons d ds ih2 =>
        intro h
        rw [List.all_cons] at h
        obtain ⟨h1, h2⟩ := Bool.and_eq_true_iff.mp h
        show (eqD d d && eqL ds ds) = true
        rw [ih d h1, ih2 h2] <;> rfl
    intro d h
    cases d with
    | lst ds => exact hl ds h
    | tup ds => exact hl ds h
    | _ => first | rfl | exact beq_self_eq_true _ | cases h
section
variable {X : Cx} {pins : List (Addr × Obj)} {sg : L2.St} {H G : Hp} {s : Shared}
/-- the same value, two readings: equal -/
theorem eqD_same (I : Inv X pins sg H s) (fz : Exz G H) (nz : Nz G) (n : Nat) : ∀ (d e : D) (v : V), pl n d = true → pl n e = true → Rp X.K G d v → Rp X.K G e v → eqD d e = true := by
  induction n with
  | zero =>
    intro d e v h1 h2 r1 r2
    cases d <;> first | (exact absurd h1 Bool.false_ne_true) | skip
    all_goals cases e <;> first | (exact absurd h2 Bool.false_ne_true) | skip
    all_goals (have q := Eq.trans (Eq.symm (show v = _ from r1)) (show v = _ from r2); first | rfl | (cases q <;> first | rfl | exact beq_self_eq_true _))
  | succ n ih =>
    have hl : ∀ (ds es : List D) (xs : List V), ds.all (pl n) = true → es.all (pl n) = true → RpL X.K G ds xs → RpL X.K G es xs → eqL ds es = true := by
      intro ds
      induction ds with
      | nil =>
        intro es xs _ _ r1 r2
        cases es with
        | nil => rfl
        | cons e es =>
          obtain ⟨x, ys, hx, _⟩ := r2
          rw [show xs = [] from r1] at hx
          cases hx
      | cons d ds ih2 =>
        intro es xs h1 h2 r1 r2
        obtain ⟨x, ys, rfl, a1, a2⟩ := r1
        cases es with
        | nil => cases (show x :: ys = [] from r2)
        | cons e es =>
          obtain ⟨x', ys', hx, b1, b2⟩ := r2
          cases hx
          rw [List.all_cons] at h1 h2
          obtain ⟨c1, c2⟩ := Bool.and_eq_true_iff.mp h1
          obtain ⟨e1, e2⟩ := Bool.and_eq_true_iff.mp h2
          show (eqD d e && eqL ds es) = true
          rw [ih d e x c1 e1 a1 b1, ih2 es ys c2 e2 a2 b2] <;> rfl
    intro d e v h1 h2 r1 r2
    cases d <;> first | (exact absurd h1 Bool.false_ne_true) | skip
    all_goals cases e <;> first | (exact absurd h2 Bool.false_ne_true) | skip
    case tup.tup ds es =>
      obtain ⟨a, xs, rfl, q1, q2⟩ := r1
      obtain ⟨a', ys, e', p1, p2⟩ := r2
      cases e'
      have hxy := I.tuple_inj (sqT_mono fz nz q1) (sqT_mono fz nz p1)
      subst hxy
      exact hl ds es xs h1 h2 q2 p2
    case lst.lst ds es =>
      obtain ⟨a, xs, rfl, q1, q2⟩ := r1
      obtain ⟨a', ys, e', p1, p2⟩ := r2
      cases e'
      have hxy := I.list_inj (.inl (fz.rd nz q1)) (.inl (fz.rd nz p1))
      subst hxy
      exact hl ds es xs h1 h2 q2 p2
    case tup.lst ds es =>
      obtain ⟨a, xs, rfl, q1, q2⟩ := r1
      obtain ⟨a', ys, e', p1, p2⟩ := r2
      cases e'
      obtain ⟨its, _, t1, _⟩ := I.tuple (sqT_mono fz nz q1)
      obtain ⟨its2, _, t2, _⟩ := I.list (.inl (fz.rd nz p1))
      exact absurd rfl (ne_of_list_tuple t2.isList t1)
    case lst.tup ds es =>
      obtain ⟨a, xs, rfl, q1, q2⟩ := r1
      obtain ⟨a', ys, e', p1, p2⟩ := r2
      cases e'
      obtain ⟨its, _, t1, _⟩ := I.tuple (sqT_mono fz nz p1)
      obtain ⟨its2, _, t2, _⟩ := I.list (.inl (fz.rd nz q1))
      exact absurd rfl (ne_of_list_tuple t2.isList t1)
    all_goals first
      | (obtain ⟨a, xs, rfl, _⟩ := r1; cases (show V.ref a = _ from r2))
      | (obtain ⟨a, xs, rfl, _⟩ := r2; cases (show V.ref a = _ from r1))
      | (have q := Eq.trans (Eq.symm (show v = _ from r1)) (show v = _ from r2); first | rfl | (cases q <;> first | rfl | exact beq_self_eq_true _))
/-- the items' equality, by place -/
theorem items_eq {n : Nat} {A : Around} (ih : ∀ (d e : D) (A : Around) (v w : V) (u u' : Value), pl n d = true → pl n e = true → Rp X.K G d v → Rp X.K G e w → RelV v u → RelV w u' → A.units + n < cLine → EqAt A s u u' (eqD d e))
    {ds es : List D} {xs ys : List V} {its its2 : List Value} (h1 : ds.all (pl n) = true) (h2 : es.all (pl n) = true) (r1 : RpL X.K G ds xs) (r2 : RpL X.K G es ys) (q1 : Vals xs its) (q2 : Vals ys its2) (hu : A.units + (n + 1) < cLine) :
    ∀ j (l1 : j < its.toArray.size) (l2 : j < its2.toArray.size), EqAt A.in1 s its.toArray[j] its2.toArray[j] (eqD (ds.getD j .non) (es.getD j .non)) := fun j l1 l2 => by
  have k1 : j < its.length := by simpa using l1
  have k2 : j < its2.length := by simpa using l2
  have m1 : j < ds.length := by rw [← rpl_len r1, q1.length]; exact k1
  have m2 : j < es.length := by rw [← rpl_len r2, q2.length]; exact k2
  obtain ⟨v, hv, rv⟩ := rpl_get r1 (List.getElem?_eq_getElem m1)
  obtain ⟨w, hw, rw2⟩ := rpl_get r2 (List.getElem?_eq_getElem m2)
  obtain ⟨u, hu1, ru⟩ := q1.get hv
  obtain ⟨u', hu2, ru'⟩ := q2.get hw
  have e1 : its.toArray[j] = u := by
    rw [List.getElem?_eq_getElem k1] at hu1
    simpa using hu1
  have e2 : its2.toArray[j] = u' := by
    rw [List.getElem?_eq_getElem k2] at hu2
    simpa using hu2
  have g1 : ds.getD j .non = ds[j] := by simp [List.getD, List.getElem?_eq_getElem m1]
  have g2 : es.getD j .non = es[j] := by simp [List.getD, List.getElem?_eq_getElem m2]
  rw [e1, e2, g1, g2]
  exact ih _ _ A.in1 v w u u' (List.all_eq_true.mp h1 _ (List.getElem_mem m1)) (List.all_eq_true.mp h2 _ (List.getElem_mem m2)) rv rw2 ru ru' (by show A.units + 1 + n < cLine; omega)
theorem list_flat {A : Around} {a : Addr} {its : Array Value} (h : s.heap.IsList a its) (hu : A.units < cLine) : ∀ {w : V} {u : Value}, RelV w u → flatV w = true → EqAt A s (.ref a) u false ∧ EqAt A s u (.ref a) false
  | .non, u, r, _ => by
    cases r
    exact ⟨EqAt.list_none h hu, EqAt.none_list h hu⟩
  | .bl b, u, r, _ => by
    cases r
    exact ⟨EqAt.list_bool b h hu, EqAt.bool_list b h hu⟩
  | .int i, u, r, _ => by
    obtain ⟨t, rfl⟩ := r
    exact ⟨EqAt.list_int i t h hu, EqAt.int_list i t h hu⟩
  | .str z, u, r, _ => by
    obtain ⟨t, rfl⟩ := r
    exact ⟨EqAt.list_str z t h hu, EqAt.str_list z t h hu⟩
  | .byt _, _, _, f => absurd f Bool.false_ne_true
  | .flt _, _, _, f => absurd f Bool.false_ne_true
  | .ref _, _, _, f => absurd f Bool.false_ne_true
  | .ty _, _, _, f => absurd f Bool.false_ne_true
theorem tup_flat {A : Around} {a : Addr} {its : Array Value} (h : s.heap.IsTuple a its) (hu : A.units < cLine) : ∀ {w : V} {u : Value}, RelV w u → flatV w = true → EqAt A s (.ref a) u false ∧ EqAt A s u (.ref a) false
  | .non, u, r, _ => by
    cases r
    exact ⟨EqAt.tuple_none h hu, EqAt.none_tuple h hu⟩
  | .bl b, u, r, _ => by
    cases r
    exact ⟨EqAt.tuple_bool b h hu, EqAt.bool_tuple b h hu⟩
  | .int i, u, r, _ => by
    obtain ⟨t, rfl⟩ := r
    exact ⟨EqAt.tuple_int i t h hu, EqAt.int_tuple i t h hu⟩
  | .str z, u, r, _ => by
    obtain ⟨t, rfl⟩ := r
    exact ⟨EqAt.tuple_str z t h hu, EqAt.str_tuple z t h hu⟩
  | .byt _, _, _, f => absurd f Bool.false_ne_true
  | .flt _, _, _, f => absurd f Bool.false_ne_true
  | .ref _, _, _, f => absurd f Bool.false_ne_true
  | .ty _, _, _, f => absurd f Bool.false_ne_true
/-- flat data -/
def fl : D → Bool
  | .non => true
  | .bl _ => true
  | .int _ => true
  | .str _ => true
  | _ => false
theorem fl_v : ∀ {d : D} {v : V}, fl d = true → Rp X.K G d v → flatV v = true
  | .non, v, _, h => by rw [show v = _ from h]; rfl
  | .bl _, v, _, h => by rw [show v = _ from h]; rfl
  | .int _, v, _, h => by rw [show v = _ from h]; rfl
  | .str _, v, _, h => by rw [show v = _ from h]; rfl
theorem fl_eq : ∀ {d e : D} {v w : V}, fl d = true → fl e = true → Rp X.K G d v → Rp X.K G e w → eqV v w = eqD d e := by
  intro d e v w h1 h2 r1 r2
  cases d <;> first | (exact absurd h1 Bool.false_ne_true) | skip
  all_goals cases e <;> first | (exact absurd h2 Bool.false_ne_true) | skip
  all_goals (have z1 := (show v = _ from r1); have z2 := (show w = _ from r2); subst z1 z2; rfl)
theorem eqAt_D (I : Inv X pins sg H s) (fz : Exz G H) (nz : Nz G) (n : Nat) : ∀ (d e : D) (A : Around) (v w : V) (u u' : Value), pl n d = true → pl n e = true → Rp X.K G d v → Rp X.K G e w → RelV v u → RelV w u' → A.units + n < cLine → EqAt A s u u' (eqD d e) := by
  have flat : ∀ (A : Around) (d e : D) (v w : V) (u u' : Value), RelV v u → RelV w u' → flatV v = true → flatV w = true → eqV v w = eqD d e → EqAt A s u u' (eqD d e) := fun A d e v w u u' r1 r2 f1 f2 q => q ▸ eqAt_V r1 r2 f1 f2
  induction n with
  | zero =>
    intro d e A v w u u' h1 h2 r1 r2 q1 q2 hu
    cases d <;> first | (exact absurd h1 Bool.false_ne_true) | skip
    all_goals cases e <;> first | (exact absurd h2 Bool.false_ne_true) | skip
    all_goals (have z1 := (show v = _ from r1); have z2 := (show w = _ from r2); subst z1 z2; exact flat A _ _ _ _ _ _ q1 q2 rfl rfl rfl)
  | succ n ih =>
    intro d e A v w u u' h1 h2 r1 r2 q1 q2 hu
    have hu0 : A.units < cLine := by omega
    have lstf : ∀ {ds : List D} {e : D}, Rp X.K G (.lst ds) v → fl e = true → Rp X.K G e w → RelV v u → RelV w u' → EqAt A s u u' false := fun {ds e} r1 f r2 q1 q2 => by
      obtain ⟨a, xs, rfl, a1, a2⟩ := r1
      cases q1
      obtain ⟨its, t1, t2, _⟩ := I.list (.inl (fz.rd nz a1))
      exact (list_flat t2.isList hu0 q2 (fl_v f r2)).1
    have tupf : ∀ {ds : List D} {e : D}, Rp X.K G (.tup ds) v → fl e = true → Rp X.K G e w → RelV v u → RelV w u' → EqAt A s u u' false := fun {ds e} r1 f r2 q1 q2 => by
      obtain ⟨a, xs, rfl, a1, a2⟩ := r1
      cases q1
      obtain ⟨its, t1, t2, _⟩ := I.tuple (sqT_mono fz nz a1)
      exact (tup_flat t2 hu0 q2 (fl_v f r2)).1
    have flst : ∀ {ds : List D} {e : D}, Rp X.K G e v → fl e = true → Rp X.K G (.lst ds) w → RelV v u → RelV w u' → EqAt A s u u' false := fun {ds e} r1 f r2 q1 q2 => by
      obtain ⟨a, xs, rfl, a1, a2⟩ := r2
      cases q2
      obtain ⟨its, t1, t2, _⟩ := I.list (.inl (fz.rd nz a1))
      exact (list_flat t2.isList hu0 q1 (fl_v f r1)).2
    have ftup : ∀ {ds : List D} {e : D}, Rp X.K G e v → fl e = true → Rp X.K G (.tup ds) w → RelV v u → RelV w u' → EqAt A s u u' false := fun {ds e} r1 f r2 q1 q2 => by
      obtain ⟨a, xs, rfl, a1, a2⟩ := r2
      cases q2
      obtain ⟨its, t1, t2, _⟩ := I.tuple (sqT_mono fz nz a1)
      exact (tup_flat t2 hu0 q1 (fl_v f r1)).2
    cases d <;> first | (exact absurd h1 Bool.false_ne_true) | skip
    all_goals cases e <;> first | (exact absurd h2 Bool.false_ne_true) | skip
    case lst.lst ds es =>
      by_cases hab : v = w
      · subst hab
        have hue : u = u' := by
          obtain ⟨a, xs, rfl, _⟩ := r1
          rw [show u = Value.ref a from q1, show u' = Value.ref a from q2]
        subst hue
        rw [eqD_same I fz nz (n + 1) _ _ v h1 h2 r1 r2]
        exact EqAt.same _
      · obtain ⟨a, xs, rfl, a1, a2⟩ := r1
        obtain ⟨b, ys, rfl, b1, b2⟩ := r2
        cases q1
        cases q2
        obtain ⟨its, t1, t2, _⟩ := I.list (.inl (fz.rd nz a1))
        obtain ⟨its2, t3, t4, _⟩ := I.list (.inl (fz.rd nz b1))
        have l1 : its.toArray.size = ds.length := by rw [List.size_toArray, ← t1.length, rpl_len a2]
        have l2 : its2.toArray.size = es.length := by rw [List.size_toArray, ← t3.length, rpl_len b2]
        show EqAt A s _ _ (eqL ds es)
        by_cases hl : ds.length = es.length
        · rw [eqL_all ds es hl, ← l1]
          exact EqAt.of_refs (fun z => hab (by rw [z])) (RcAt.lists t2.isList t4.isList (by omega) hu0 (items_eq ih h1 h2 a2 b2 t1 t3 hu))
        · rw [eqL_ne hl]
          exact EqAt.of_refs (fun z => hab (by rw [z])) (RcAt.lists_lengths t2.isList t4.isList (by simp only [bne_iff_ne]; omega) hu0)
    case tup.tup ds es =>
      by_cases hab : v = w
      · subst hab
        have hue : u = u' := by
          obtain ⟨a, xs, rfl, _⟩ := r1
          rw [show u = Value.ref a from q1, show u' = Value.ref a from q2]
        subst hue
        rw [eqD_same I fz nz (n + 1) _ _ v h1 h2 r1 r2]
        exact EqAt.same _
      · obtain ⟨a, xs, rfl, a1, a2⟩ := r1
        obtain ⟨b, ys, rfl, b1, b2⟩ := r2
        cases q1
        cases q2
        obtain ⟨its, t1, t2, _⟩ := I.tuple (sqT_mono fz nz a1)
        obtain ⟨its2, t3, t4, _⟩ := I.tuple (sqT_mono fz nz b1)
        have l1 : its.toArray.size = ds.length := by rw [List.size_toArray, ← t1.length, rpl_len a2]
        have l2 : its2.toArray.size = es.length := by rw [List.size_toArray, ← t3.length, rpl_len b2]
        have main := RcAt.tuples t2 t4 hu0 (items_eq ih h1 h2 a2 b2 t1 t3 hu)
        have key : ((List.range (min its.toArray.size its2.toArray.size)).all (fun j => eqD (ds.getD j .non) (es.getD j .non)) && its.toArray.size == its2.toArray.size) = eqL ds es := by
          by_cases hl : ds.length = es.length
          · rw [eqL_all ds es hl, l1, l2, hl]
            simp
          · rw [eqL_ne hl, l1, l2]
            simp [hl]
        rw [key] at main
        exact EqAt.of_refs (fun z => hab (by rw [z])) main
    case lst.tup ds es =>
      obtain ⟨a, xs, rfl, a1, a2⟩ := r1
      obtain ⟨b, ys, rfl, b1, b2⟩ := r2
      cases q1
      cases q2
      obtain ⟨its, t1, t2, _⟩ := I.list (.inl (fz.rd nz a1))
      obtain ⟨its2, t3, t4, _⟩ := I.tuple (sqT_mono fz nz b1)
      exact EqAt.list_tuple t2.isList t4 hu0
    case tup.lst ds es =>
      obtain ⟨a, xs, rfl, a1, a2⟩ := r1
      obtain ⟨b, ys, rfl, b1, b2⟩ := r2
      cases q1
      cases q2
      obtain ⟨its, t1, t2, _⟩ := I.tuple (sqT_mono fz nz a1)
      obtain ⟨its2, t3, t4, _⟩ := I.list (.inl (fz.rd nz b1))
      exact EqAt.tuple_list t2 t4.isList hu0
    case lst.non => exact lstf r1 rfl r2 q1 q2
    case lst.bl => exact lstf r1 rfl r2 q1 q2
    case lst.int => exact lstf r1 rfl r2 q1 q2
    case lst.str => exact lstf r1 rfl r2 q1 q2
    case tup.non => exact tupf r1 rfl r2 q1 q2
    case tup.bl => exact tupf r1 rfl r2 q1 q2
    case tup.int => exact tupf r1 rfl r2 q1 q2
    case tup.str => exact tupf r1 rfl r2 q1 q2
    case non.lst => exact flst r1 rfl r2 q1 q2
    case bl.lst => exact flst r1 rfl r2 q1 q2
    case int.lst => exact flst r1 rfl r2 q1 q2
    case str.lst => exact flst r1 rfl r2 q1 q2
    case non.tup => exact ftup r1 rfl r2 q1 q2
    case bl.tup => exact ftup r1 rfl r2 q1 q2
    case int.tup => exact ftup r1 rfl r2 q1 q2
    case str.tup => exact ftup r1 rfl r2 q1 q2
    all_goals (have z1 := (show v = _ from r1); have z2 := (show w = _ from r2); subst z1 z2; exact flat A _ _ _ _ _ _ q1 q2 rfl rfl rfl)
end
end DL

/-! DQ: == and != of data, at the top (printed by gen_eq.py, own work). -/
namespace DL
open PySem L2 PySem.SeqAt
section
variable {X : Cx} {pins : List (Addr × Obj)} {sg : L2.St} {H G : Hp} {s : Shared}

theorem rc_flat {A : Around} : ∀ {v w : V} {u u' : Value}, RelV v u → RelV w u' → flatV v = true → flatV w = true → RcAt A s u u' (eqV v w)
  | .non, .non, u, u', r1, r2, _, _ => by
    cases r1
    cases r2
    exact RcAt.none_none
  | .non, .bl b2, u, u', r1, r2, _, _ => by
    cases r1
    cases r2
    exact RcAt.none_bool b2
  | .non, .int i2, u, u', r1, r2, _, _ => by
    cases r1
    obtain ⟨t2, rfl⟩ := r2
    exact RcAt.none_int i2 t2
  | .non, .str z2, u, u', r1, r2, _, _ => by
    cases r1
    obtain ⟨t2, rfl⟩ := r2
    exact RcAt.none_str z2 t2
  | .bl b1, .non, u, u', r1, r2, _, _ => by
    cases r1
    cases r2
    exact RcAt.bool_none b1
  | .bl b1, .bl b2, u, u', r1, r2, _, _ => by
    cases r1
    cases r2
    exact RcAt.bool_bool b1 b2
  | .bl b1, .int i2, u, u', r1, r2, _, _ => by
    cases r1
    obtain ⟨t2, rfl⟩ := r2
    exact RcAt.bool_int b1 i2 t2
  | .bl b1, .str z2, u, u', r1, r2, _, _ => by
    cases r1
    obtain ⟨t2, rfl⟩ := r2
    exact RcAt.bool_str b1 z2 t2
  | .int i1, .non, u, u', r1, r2, _, _ => by
    obtain ⟨t1, rfl⟩ := r1
    cases r2
    exact RcAt.int_none i1 t1
  | .int i1, .bl b2, u, u', r1, r2, _, _ => by
    obtain ⟨t1, rfl⟩ := r1
    cases r2
    exact RcAt.int_bool i1 t1 b2
  | .int i1, .int i2, u, u', r1, r2, _, _ => by
    obtain ⟨t1, rfl⟩ := r1
    obtain ⟨t2, rfl⟩ := r2
    exact RcAt.int_int i1 t1 i2 t2
  | .int i1, .str z2, u, u', r1, r2, _, _ => by
    obtain ⟨t1, rfl⟩ := r1
    obtain ⟨t2, rfl⟩ := r2
    exact RcAt.int_str i1 t1 z2 t2
  | .str z1, .non, u, u', r1, r2, _, _ => by
    obtain ⟨t1, rfl⟩ := r1
    cases r2
    exact RcAt.str_none z1 t1
  | .str z1, .bl b2, u, u', r1, r2, _, _ => by
    obtain ⟨t1, rfl⟩ := r1
    cases r2
    exact RcAt.str_bool z1 t1 b2
  | .str z1, .int i2, u, u', r1, r2, _, _ => by
    obtain ⟨t1, rfl⟩ := r1
    obtain ⟨t2, rfl⟩ := r2
    exact RcAt.str_int z1 t1 i2 t2
  | .str z1, .str z2, u, u', r1, r2, _, _ => by
    obtain ⟨t1, rfl⟩ := r1
    obtain ⟨t2, rfl⟩ := r2
    exact RcAt.str_str z1 t1 z2 t2
  | .byt _, _, _, _, _, _, f, _ => absurd f Bool.false_ne_true
  | .flt _, _, _, _, _, _, f, _ => absurd f Bool.false_ne_true
  | .ref _, _, _, _, _, _, f, _ => absurd f Bool.false_ne_true
  | .ty _, _, _, _, _, _, f, _ => absurd f Bool.false_ne_true
  | .non, .byt _, _, _, _, _, _, f => absurd f Bool.false_ne_true
  | .bl _, .byt _, _, _, _, _, _, f => absurd f Bool.false_ne_true
  | .int _, .byt _, _, _, _, _, _, f => absurd f Bool.false_ne_true
  | .str _, .byt _, _, _, _, _, _, f => absurd f Bool.false_ne_true
  | .non, .flt _, _, _, _, _, _, f => absurd f Bool.false_ne_true
  | .bl _, .flt _, _, _, _, _, _, f => absurd f Bool.false_ne_true
  | .int _, .flt _, _, _, _, _, _, f => absurd f Bool.false_ne_true
  | .str _, .flt _, _, _, _, _, _, f => absurd f Bool.false_ne_true
  | .non, .ref _, _, _, _, _, _, f => absurd f Bool.false_ne_true
  | .bl _, .ref _, _, _, _, _, _, f => absurd f Bool.false_ne_true
  | .int _, .ref _, _, _, _, _, _, f => absurd f Bool.false_ne_true
  | .str _, .ref _, _, _, _, _, _, f => absurd f Bool.false_ne_true
  | .non, .ty _, _, _, _, _, _, f => absurd f Bool.false_ne_true
  | .bl _, .ty _, _, _, _, _, _, f => absurd f Bool.false_ne_true
  | .int _, .ty _, _, _, _, _, _, f => absurd f Bool.false_ne_true
  | .str _, .ty _, _, _, _, _, _, f => absurd f Bool.false_ne_true
theorem rc_list {A : Around} {a : Addr} {its : Array Value} (h : s.heap.IsList a its) (hu : A.units < cLine) : ∀ {w : V} {u : Value}, RelV w u → flatV w = true → RcAt A s (.ref a) u false ∧ RcAt A s u (.ref a) false
  | .non, u, r, _ => by
    cases r
    exact ⟨RcAt.list_none h hu, RcAt.none_list h hu⟩
  | .bl b2, u, r, _ => by
    cases r
    exact ⟨RcAt.list_bool b2 h hu, RcAt.bool_list b2 h hu⟩
  | .int i2, u, r, _ => by
    obtain ⟨t2, rfl⟩ := r
    exact ⟨RcAt.list_int i2 t2 h hu, RcAt.int_list i2 t2 h hu⟩
  | .str z2, u, r, _ => by
    obtain ⟨t2, rfl⟩ := r
    exact ⟨RcAt.list_str z2 t2 h hu, RcAt.str_list z2 t2 h hu⟩
  | .byt _, _, _, f => absurd f Bool.false_ne_true
  | .flt _, _, _, f => absurd f Bool.false_ne_true
  | .ref _, _, _, f => absurd f Bool.false_ne_true
  | .ty _, _, _, f => absurd f Bool.false_ne_true
theorem rc_tuple {A : Around} {a : Addr} {its : Array Value} (h : s.heap.IsTuple a its) (hu : A.units < cLine) : ∀ {w : V} {u : Value}, RelV w u → flatV w = true → RcAt A s (.ref a) u false ∧ RcAt A s u (.ref a) false
  | .non, u, r, _ => by
    cases r
    exact ⟨RcAt.tuple_none h hu, RcAt.none_tuple h hu⟩
  | .bl b2, u, r, _ => by
    cases r
    exact ⟨RcAt.tuple_bool b2 h hu, RcAt.bool_tuple b2 h hu⟩
  | .int i2, u, r, _ => by
    obtain ⟨t2, rfl⟩ := r
    exact ⟨RcAt.tuple_int i2 t2 h hu, RcAt.int_tuple i2 t2 h hu⟩
  | .str z2, u, r, _ => by
    obtain ⟨t2, rfl⟩ := r
    exact ⟨RcAt.tuple_str z2 t2 h hu, RcAt.str_tuple z2 t2 h hu⟩
  | .byt _, _, _, f => absurd f Bool.false_ne_true
  | .flt _, _, _, f => absurd f Bool.false_ne_true
  | .ref _, _, _, f => absurd f Bool.false_ne_true
  | .ty _, _, _, f => absurd f Bool.false_ne_true
theorem rc_D (I : Inv X pins sg H s) (fz : Exz G H) (nz : Nz G) (n : Nat) (d e : D) (A : Around) (v w : V) (u u' : Value) (h1 : pl (n + 1) d = true) (h2 : pl (n + 1) e = true) (r1 : Rp X.K G d v) (r2 : Rp X.K G e w) (q1 : RelV v u) (q2 : RelV w u') (hu : A.units + (n + 1) < cLine) : RcAt A s u u' (eqD d e) := by
  have hu0 : A.units < cLine := by omega
  have ih := eqAt_D (X := X) I fz nz n
  have lstf : ∀ {ds : List D} {e : D}, Rp X.K G (.lst ds) v → fl e = true → Rp X.K G e w → RcAt A s u u' false := fun {ds e} r1 f r2 => by
    obtain ⟨a, xs, rfl, a1, a2⟩ := r1
    cases q1
    obtain ⟨its, t1, t2, _⟩ := I.list (.inl (fz.rd nz a1))
    exact (rc_list t2.isList hu0 q2 (fl_v f r2)).1
  have tupf : ∀ {ds : List D} {e : D}, Rp X.K G (.tup ds) v → fl e = true → Rp X.K G e w → RcAt A s u u' false := fun {ds e} r1 f r2 => by
    obtain ⟨a, xs, rfl, a1, a2⟩ := r1
    cases q1
    obtain ⟨its, t1, t2, _⟩ := I.tuple (sqT_mono fz nz a1)
    exact (rc_tuple t2 hu0 q2 (fl_v f r2)).1
  have flst : ∀ {ds : List D} {e : D}, Rp X.K G e v → fl e = true → Rp X.K G (.lst ds) w → RcAt A s u u' false := fun {ds e} r1 f r2 => by
    obtain ⟨a, xs, rfl, a1, a2⟩ := r2
    cases q2
    obtain ⟨its, t1, t2, _⟩ := I.list (.inl (fz.rd nz a1))
    exact (rc_list t2.isList hu0 q1 (fl_v f r1)).2
  have ftup : ∀ {ds : List D} {e : D}, Rp X.K G e v → fl e = true → Rp X.K G (.tup ds) w → RcAt A s u u' false := fun {ds e} r1 f r2 => by
    obtain ⟨a, xs, rfl, a1, a2⟩ := r2
    cases q2
    obtain ⟨its, t1, t2, _⟩ := I.tuple (sqT_mono fz nz a1)
    exact (rc_tuple t2 hu0 q1 (fl_v f r1)).2
  have flat : ∀ {d e : D}, fl d = true → fl e = true → Rp X.K G d v → Rp X.K G e w → RcAt A s u u' (eqD d e) := fun {d e} f1 f2 r1 r2 => by
    have z := rc_flat (A := A) (s := s) q1 q2 (fl_v f1 r1) (fl_v f2 r2)
    rw [fl_eq f1 f2 r1 r2] at z
    exact z
  cases d <;> first | (exact absurd h1 Bool.false_ne_true) | skip
  all_goals cases e <;> first | (exact absurd h2 Bool.false_ne_true) | skip
  case lst.lst ds es =>
    obtain ⟨a, xs, rfl, a1, a2⟩ := r1
    obtain ⟨b, ys, rfl, b1, b2⟩ := r2
    cases q1
    cases q2
    obtain ⟨its, t1, t2, _⟩ := I.list (.inl (fz.rd nz a1))
    obtain ⟨its2, t3, t4, _⟩ := I.list (.inl (fz.rd nz b1))
    have l1 : its.toArray.size = ds.length := by rw [List.size_toArray, ← t1.length, rpl_len a2]
    have l2 : its2.toArray.size = es.length := by rw [List.size_toArray, ← t3.length, rpl_len b2]
    show RcAt A s _ _ (eqL ds es)
    by_cases hl : ds.length = es.length
    · rw [eqL_all ds es hl, ← l1]
      exact RcAt.lists t2.isList t4.isList (by omega) hu0 (items_eq ih h1 h2 a2 b2 t1 t3 hu)
    · rw [eqL_ne hl]
      exact RcAt.lists_lengths t2.isList t4.isList (by simp only [bne_iff_ne]; omega) hu0
  case tup.tup ds es =>
    obtain ⟨a, xs, rfl, a1, a2⟩ := r1
    obtain ⟨b, ys, rfl, b1, b2⟩ := r2
    cases q1
    cases q2
    obtain ⟨its, t1, t2, _⟩ := I.tuple (sqT_mono fz nz a1)
    obtain ⟨its2, t3, t4, _⟩ := I.tuple (sqT_mono fz nz b1)
    have l1 : its.toArray.size = ds.length := by rw [List.size_toArray, ← t1.length, rpl_len a2]
    have l2 : its2.toArray.size = es.length := by rw [List.size_toArray, ← t3.length, rpl_len b2]
    have main := RcAt.tuples t2 t4 hu0 (items_eq ih h1 h2 a2 b2 t1 t3 hu)
    have key : ((List.range (min its.toArray.size its2.toArray.size)).all (fun j => eqD (ds.getD j .non) (es.getD j .non)) && its.toArray.size == its2.toArray.size) = eqL ds es := by
      by_cases hl : ds.length = es.length
      · rw [eqL_all ds es hl, l1, l2, hl]
        simp
      · rw [eqL_ne hl, l1, l2]
        simp [hl]
    rw [key] at main
    exact main
  case lst.tup ds es =>
    obtain ⟨a, xs, rfl, a1, a2⟩ := r1
    obtain ⟨b, ys, rfl, b1, b2⟩ := r2
    cases q1
    cases q2
    obtain ⟨its, t1, t2, _⟩ := I.list (.inl (fz.rd nz a1))
    obtain ⟨its2, t3, t4, _⟩ := I.tuple (sqT_mono fz nz b1)
    exact RcAt.list_tuple t2.isList t4 hu0
  case tup.lst ds es =>
    obtain ⟨a, xs, rfl, a1, a2⟩ := r1
    obtain ⟨b, ys, rfl, b1, b2⟩ := r2
    cases q1
    cases q2
    obtain ⟨its, t1, t2, _⟩ := I.tuple (sqT_mono fz nz a1)
    obtain ⟨its2, t3, t4, _⟩ := I.list (.inl (fz.rd nz b1))
    exact RcAt.tuple_list t2 t4.isList hu0
  case lst.non => exact lstf r1 rfl r2
  case tup.non => exact tupf r1 rfl r2
  case non.lst => exact flst r1 rfl r2
  case non.tup => exact ftup r1 rfl r2
  case lst.bl => exact lstf r1 rfl r2
  case tup.bl => exact tupf r1 rfl r2
  case bl.lst => exact flst r1 rfl r2
  case bl.tup => exact ftup r1 rfl r2
  case lst.int => exact lstf r1 rfl r2
  case tup.int => exact tupf r1 rfl r2
  case int.lst => exact flst r1 rfl r2
  case int.tup => exact ftup r1 rfl r2
  case lst.str => exact lstf r1 rfl r2
  case tup.str => exact tupf r1 rfl r2
  case str.lst => exact flst r1 rfl r2
  case str.tup => exact ftup r1 rfl r2
  all_goals exact flat rfl rfl r1 r2
theorem rn_flat {A : Around} : ∀ {v w : V} {u u' : Value}, RelV v u → RelV w u' → flatV v = true → flatV w = true → RcNeAt A s u u' (!eqV v w)
  | .non, .non, u, u', r1, r2, _, _ => by
    cases r1
    cases r2
    exact RcNeAt.none_none
  | .non, .bl b2, u, u', r1, r2, _, _ => by
    cases r1
    cases r2
    exact RcNeAt.none_bool b2
  | .non, .int i2, u, u', r1, r2, _, _ => by
    cases r1
    obtain ⟨t2, rfl⟩ := r2
    exact RcNeAt.none_int i2 t2
  | .non, .str z2, u, u', r1, r2, _, _ => by
    cases r1
    obtain ⟨t2, rfl⟩ := r2
    exact RcNeAt.none_str z2 t2
  | .bl b1, .non, u, u', r1, r2, _, _ => by
    cases r1
    cases r2
    exact RcNeAt.bool_none b1
  | .bl b1, .bl b2, u, u', r1, r2, _, _ => by
    cases r1
    cases r2
    exact RcNeAt.bool_bool b1 b2
  | .bl b1, .int i2, u, u', r1, r2, _, _ => by
    cases r1
    obtain ⟨t2, rfl⟩ := r2
    exact RcNeAt.bool_int b1 i2 t2
  | .bl b1, .str z2, u, u', r1, r2, _, _ => by
    cases r1
    obtain ⟨t2, rfl⟩ := r2
    exact RcNeAt.bool_str b1 z2 t2
  | .int i1, .non, u, u', r1, r2, _, _ => by
    obtain ⟨t1, rfl⟩ := r1
    cases r2
    exact RcNeAt.int_none i1 t1
  | .int i1, .bl b2, u, u', r1, r2, _, _ => by
    obtain ⟨t1, rfl⟩ := r1
    cases r2
    exact RcNeAt.int_bool i1 t1 b2
  | .int i1, .int i2, u, u', r1, r2, _, _ => by
    obtain ⟨t1, rfl⟩ := r1
    obtain ⟨t2, rfl⟩ := r2
    exact RcNeAt.int_int i1 t1 i2 t2
  | .int i1, .str z2, u, u', r1, r2, _, _ => by
    obtain ⟨t1, rfl⟩ := r1
    obtain ⟨t2, rfl⟩ := r2
    exact RcNeAt.int_str i1 t1 z2 t2
  | .str z1, .non, u, u', r1, r2, _, _ => by
    obtain ⟨t1, rfl⟩ := r1
    cases r2
    exact RcNeAt.str_none z1 t1
  | .str z1, .bl b2, u, u', r1, r2, _, _ => by
    obtain ⟨t1, rfl⟩ := r1
    cases r2
    exact RcNeAt.str_bool z1 t1 b2
  | .str z1, .int i2, u, u', r1, r2, _, _ => by
    obtain ⟨t1, rfl⟩ := r1
    obtain ⟨t2, rfl⟩ := r2
    exact RcNeAt.str_int z1 t1 i2 t2
  | .str z1, .str z2, u, u', r1, r2, _, _ => by
    obtain ⟨t1, rfl⟩ := r1
    obtain ⟨t2, rfl⟩ := r2
    exact RcNeAt.str_str z1 t1 z2 t2
  | .byt _, _, _, _, _, _, f, _ => absurd f Bool.false_ne_true
  | .flt _, _, _, _, _, _, f, _ => absurd f Bool.false_ne_true
  | .ref _, _, _, _, _, _, f, _ => absurd f Bool.false_ne_true
  | .ty _, _, _, _, _, _, f, _ => absurd f Bool.false_ne_true
  | .non, .byt _, _, _, _, _, _, f => absurd f Bool.false_ne_true
  | .bl _, .byt _, _, _, _, _, _, f => absurd f Bool.false_ne_true
  | .int _, .byt _, _, _, _, _, _, f => absurd f Bool.false_ne_true
  | .str _, .byt _, _, _, _, _, _, f => absurd f Bool.false_ne_true
  | .non, .flt _, _, _, _, _, _, f => absurd f Bool.false_ne_true
  | .bl _, .flt _, _, _, _, _, _, f => absurd f Bool.false_ne_true
  | .int _, .flt _, _, _, _, _, _, f => absurd f Bool.false_ne_true
  | .str _, .flt _, _, _, _, _, _, f => absurd f Bool.false_ne_true
  | .non, .ref _, _, _, _, _, _, f => absurd f Bool.false_ne_true
  | .bl _, .ref _, _, _, _, _, _, f => absurd f Bool.false_ne_true
  | .int _, .ref _, _, _, _, _, _, f => absurd f Bool.false_ne_true
  | .str _, .ref _, _, _, _, _, _, f => absurd f Bool.false_ne_true
  | .non, .ty _, _, _, _, _, _, f => absurd f Bool.false_ne_true
  | .bl _, .ty _, _, _, _, _, _, f => absurd f Bool.false_ne_true
  | .int _, .ty _, _, _, _, _, _, f => absurd f Bool.false_ne_true
  | .str _, .ty _, _, _, _, _, _, f => absurd f Bool.false_ne_true
theorem rn_list {A : Around} {a : Addr} {its : Array Value} (h : s.heap.IsList a its) (hu : A.units < cLine) : ∀ {w : V} {u : Value}, RelV w u → flatV w = true → RcNeAt A s (.ref a) u true ∧ RcNeAt A s u (.ref a) true
  | .non, u, r, _ => by
    cases r
    exact ⟨RcNeAt.list_none h hu, RcNeAt.none_list h hu⟩
  | .bl b2, u, r, _ => by
    cases r
    exact ⟨RcNeAt.list_bool b2 h hu, RcNeAt.bool_list b2 h hu⟩
  | .int i2, u, r, _ => by
    obtain ⟨t2, rfl⟩ := r
    exact ⟨RcNeAt.list_int i2 t2 h hu, RcNeAt.int_list i2 t2 h hu⟩
  | .str z2, u, r, _ => by
    obtain ⟨t2, rfl⟩ := r
    exact ⟨RcNeAt.list_str z2 t2 h hu, RcNeAt.str_list z2 t2 h hu⟩
  | .byt _, _, _, f => absurd f Bool.false_ne_true
  | .flt _, _, _, f => absurd f Bool.false_ne_true
  | .ref _, _, _, f => absurd f Bool.false_ne_true
  | .ty _, _, _, f => absurd f Bool.false_ne_true
theorem rn_tuple {A : Around} {a : Addr} {its : Array Value} (h : s.heap.IsTuple a its) (hu : A.units < cLine) : ∀ {w : V} {u : Value}, RelV w u → flatV w = true → RcNeAt A s (.ref a) u true ∧ RcNeAt A s u (.ref a) true
  | .non, u, r, _ => by
    cases r
    exact ⟨RcNeAt.tuple_none h hu, RcNeAt.none_tuple h hu⟩
  | .bl b2, u, r, _ => by
    cases r
    exact ⟨RcNeAt.tuple_bool b2 h hu, RcNeAt.bool_tuple b2 h hu⟩
  | .int i2, u, r, _ => by
    obtain ⟨t2, rfl⟩ := r
    exact ⟨RcNeAt.tuple_int i2 t2 h hu, RcNeAt.int_tuple i2 t2 h hu⟩
  | .str z2, u, r, _ => by
    obtain ⟨t2, rfl⟩ := r
    exact ⟨RcNeAt.tuple_str z2 t2 h hu, RcNeAt.str_tuple z2 t2 h hu⟩
  | .byt _, _, _, f => absurd f Bool.false_ne_true
  | .flt _, _, _, f => absurd f Bool.false_ne_true
  | .ref _, _, _, f => absurd f Bool.false_ne_true
  | .ty _, _, _, f => absurd f Bool.false_ne_true
theorem rn_D (I : Inv X pins sg H s) (fz : Exz G H) (nz : Nz G) (n : Nat) (d e : D) (A : Around) (v w : V) (u u' : Value) (h1 : pl (n + 1) d = true) (h2 : pl (n + 1) e = true) (r1 : Rp X.K G d v) (r2 : Rp X.K G e w) (q1 : RelV v u) (q2 : RelV w u') (hu : A.units + (n + 1) < cLine) : RcNeAt A s u u' (!eqD d e) := by
  have hu0 : A.units < cLine := by omega
  have ih := eqAt_D (X := X) I fz nz n
  have lstf : ∀ {ds : List D} {e : D}, Rp X.K G (.lst ds) v → fl e = true → Rp X.K G e w → RcNeAt A s u u' true := fun {ds e} r1 f r2 => by
    obtain ⟨a, xs, rfl, a1, a2⟩ := r1
    cases q1
    obtain ⟨its, t1, t2, _⟩ := I.list (.inl (fz.rd nz a1))
    exact (rn_list t2.isList hu0 q2 (fl_v f r2)).1
  have tupf : ∀ {ds : List D} {e : D}, Rp X.K G (.tup ds) v → fl e = true → Rp X.K G e w → RcNeAt A s u u' true := fun {ds e} r1 f r2 => by
    obtain ⟨a, xs, rfl, a1, a2⟩ := r1
    cases q1
    obtain ⟨its, t1, t2, _⟩ := I.tuple (sqT_mono fz nz a1)
    exact (rn_tuple t2 hu0 q2 (fl_v f r2)).1
  have flst : ∀ {ds : List D} {e : D}, Rp X.K G e v → fl e = true → Rp X.K G (.lst ds) w → RcNeAt A s u u' true := fun {ds e} r1 f r2 => by
    obtain ⟨a, xs, rfl, a1, a2⟩ := r2
    cases q2
    obtain ⟨its, t1, t2, _⟩ := I.list (.inl (fz.rd nz a1))
    exact (rn_list t2.isList hu0 q1 (fl_v f r1)).2
  have ftup : ∀ {ds : List D} {e : D}, Rp X.K G e v → fl e = true → Rp X.K G (.tup ds) w → RcNeAt A s u u' true := fun {ds e} r1 f r2 => by
    obtain ⟨a, xs, rfl, a1, a2⟩ := r2
    cases q2
    obtain ⟨its, t1, t2, _⟩ := I.tuple (sqT_mono fz nz a1)
    exact (rn_tuple t2 hu0 q1 (fl_v f r1)).2
  have flat : ∀ {d e : D}, fl d = true → fl e = true → Rp X.K G d v → Rp X.K G e w → RcNeAt A s u u' (!eqD d e) := fun {d e} f1 f2 r1 r2 => by
    have z := rn_flat (A := A) (s := s) q1 q2 (fl_v f1 r1) (fl_v f2 r2)
    rw [fl_eq f1 f2 r1 r2] at z
    exact z
  cases d <;> first | (exact absurd h1 Bool.false_ne_true) | skip
  all_goals cases e <;> first | (exact absurd h2 Bool.false_ne_true) | skip
  case lst.lst ds es =>
    obtain ⟨a, xs, rfl, a1, a2⟩ := r1
    obtain ⟨b, ys, rfl, b1, b2⟩ := r2
    cases q1
    cases q2
    obtain ⟨its, t1, t2, _⟩ := I.list (.inl (fz.rd nz a1))
    obtain ⟨its2, t3, t4, _⟩ := I.list (.inl (fz.rd nz b1))
    have l1 : its.toArray.size = ds.length := by rw [List.size_toArray, ← t1.length, rpl_len a2]
    have l2 : its2.toArray.size = es.length := by rw [List.size_toArray, ← t3.length, rpl_len b2]
    show RcNeAt A s _ _ (!eqL ds es)
    by_cases hl : ds.length = es.length
    · rw [eqL_all ds es hl, ← l1]
      exact RcNeAt.lists t2.isList t4.isList (by omega) hu0 (items_eq ih h1 h2 a2 b2 t1 t3 hu)
    · rw [eqL_ne hl]
      exact RcNeAt.lists_lengths t2.isList t4.isList (by simp only [bne_iff_ne]; omega) hu0
  case tup.tup ds es =>
    obtain ⟨a, xs, rfl, a1, a2⟩ := r1
    obtain ⟨b, ys, rfl, b1, b2⟩ := r2
    cases q1
    cases q2
    obtain ⟨its, t1, t2, _⟩ := I.tuple (sqT_mono fz nz a1)
    obtain ⟨its2, t3, t4, _⟩ := I.tuple (sqT_mono fz nz b1)
    have l1 : its.toArray.size = ds.length := by rw [List.size_toArray, ← t1.length, rpl_len a2]
    have l2 : its2.toArray.size = es.length := by rw [List.size_toArray, ← t3.length, rpl_len b2]
    have main := RcNeAt.tuples t2 t4 hu0 (items_eq ih h1 h2 a2 b2 t1 t3 hu)
    have key : ((List.range (min its.toArray.size its2.toArray.size)).all (fun j => eqD (ds.getD j .non) (es.getD j .non)) && its.toArray.size == its2.toArray.size) = eqL ds es := by
      by_cases hl : ds.length = es.length
      · rw [eqL_all ds es hl, l1, l2, hl]
        simp
      · rw [eqL_ne hl, l1, l2]
        simp [hl]
    rw [key] at main
    exact main
  case lst.tup ds es =>
    obtain ⟨a, xs, rfl, a1, a2⟩ := r1
    obtain ⟨b, ys, rfl, b1, b2⟩ := r2
    cases q1
    cases q2
    obtain ⟨its, t1, t2, _⟩ := I.list (.inl (fz.rd nz a1))
    obtain ⟨its2, t3, t4, _⟩ := I.tuple (sqT_mono fz nz b1)
    exact RcNeAt.list_tuple t2.isList t4 hu0
  case tup.lst ds es =>
    obtain ⟨a, xs, rfl, a1, a2⟩ := r1
    obtain ⟨b, ys, rfl, b1, b2⟩ := r2
    cases q1
    cases q2
    obtain ⟨its, t1, t2, _⟩ := I.tuple (sqT_mono fz nz a1)
    obtain ⟨its2, t3, t4, _⟩ := I.list (.inl (fz.rd nz b1))
    exact RcNeAt.tuple_list t2 t4.isList hu0
  case lst.non => exact lstf r1 rfl r2
  case tup.non => exact tupf r1 rfl r2
  case non.lst => exact flst r1 rfl r2
  case non.tup => exact ftup r1 rfl r2
  case lst.bl => exact lstf r1 rfl r2
  case tup.bl => exact tupf r1 rfl r2
  case bl.lst => exact flst r1 rfl r2
  case bl.tup => exact ftup r1 rfl r2
  case lst.int => exact lstf r1 rfl r2
  case tup.int => exact tupf r1 rfl r2
  case int.lst => exact flst r1 rfl r2
  case int.tup => exact ftup r1 rfl r2
  case lst.str => exact lstf r1 rfl r2
  case tup.str => exact tupf r1 rfl r2
  case str.lst => exact flst r1 rfl r2
  case str.tup => exact ftup r1 rfl r2
  all_goals exact flat rfl rfl r1 r2
/-- == and != of plain data -/
def rEqP (K : PySem.W.Frag) (neg : Bool) : R2 := fun x y H Q => ∃ (n : Nat) (G : Hp) (d e : D), Exz G H ∧ Nz G ∧ n ≤ 60 ∧ pl (n + 1) d = true ∧ pl (n + 1) e = true ∧ Rp K G d x ∧ Rp K G e y ∧ Q (.bl (if neg then !eqD d e else eqD d e)) H
theorem op_eqP (hu : X.A.units + 64 < cLine) : OpR X (compareOp .Eq) (rEqP X.K false) := by
  intro pins s sg H x y v u Q I rx ry h
  obtain ⟨n, G, d, e, fz, nz, hn, p1, p2, r1, r2, q⟩ := h
  exact rc_D I fz nz n d e X.A x y v u p1 p2 r1 r2 rx ry (by omega) X.prog X.w X.xe _ ⟨.bl _, H, I, rfl, q⟩
theorem op_neP (hu : X.A.units + 64 < cLine) : OpR X (compareOp .NotEq) (rEqP X.K true) := by
  intro pins s sg H x y v u Q I rx ry h
  obtain ⟨n, G, d, e, fz, nz, hn, p1, p2, r1, r2, q⟩ := h
  exact rn_D I fz nz n d e X.A x y v u p1 p2 r1 r2 rx ry (by omega) X.prog X.w X.xe _ ⟨.bl _, H, I, rfl, q⟩
end
/-! ### by data -/
/-- w stands for the plain data d -/
inductive Pk (ka : Cells) : W → D → Prop where
  | v {d} : Pk ka (.val d) d
  | w {d} : Pk ka (.vw d) d
  | c {a ds} (j : Nat) (h : ka[j]? = some (a, .lst ds)) : Pk ka (.val (.adr a)) (.lst ds)
section
variable {K : PySem.W.Frag} {B F F0 : Hp} {ro : Ro} {ka : Cells} {ta : List (V × W)} {sg : L2.St} {H : Hp} {x y : W}
/-- what may be read with the cells' lists beside -/
def gH (H : Hp) : Hp := fun a => match H a with
  | some (.frz _ u) => if lk u then some u else none
  | z => z
theorem gH_nz : Nz (gH H) := fun a u h => by
  unfold gH at h
  split at h
  · split at h
    · rename_i hx
      cases h
      cases u <;> first | rfl | cases hx
    · cases h
  · rename_i z q
    cases u with
    | frz ob z => exact absurd h (q ob z)
    | _ => rfl
theorem gH_exz : Exz (gH H) H := fun a u h => by
  unfold gH at h
  split at h
  · rename_i ob x q
    split at h
    · rename_i hx
      cases h
      exact .inr ⟨hx, ob, q⟩
    · cases h
  · exact .inl h
theorem exz_gH {G : Hp} (e : Exz G H) (n : Nz G) : Exz G (gH H) := fun a u h => by
  refine .inl ?_
  have hu := n a u h
  unfold gH
  rcases e a u h with q | ⟨k, o, q⟩
  · rw [q]
    cases u with
    | frz o z => cases hu
    | _ => rfl
  · rw [q]
    show (if lk u then some u else none) = some u
    rw [k]
    rfl
theorem Pk.get {d : D} {v : V} (l : Pk ka x d) (e : EnF K B F ro ka ta sg H) (h : WOk K B F v x) : Rp K (gH H) d v := by
  cases l with
  | v => exact Rp.mono (exz_gH e.fz e.nz) e.nz d v h
  | w => exact Rp.mono (exz_gH (uni_exz e.fz e.fr) (uni_nz e.nz)) (uni_nz e.nz) d v h
  | @c a ds j hj =>
    obtain ⟨_, _, xs, h1, h2⟩ := e.ce _ (List.mem_of_getElem? hj)
    have hv : v = .ref a := h
    refine ⟨a, xs, hv, .inl ?_, RpL.mono (exz_gH e.fz e.nz) e.nz _ _ h2⟩
    unfold gH
    rw [h1]
theorem rv_eqP {d e : D} (l1 : Pk ka x d) (l2 : Pk ka y e) (p1 : pl 61 d = true) (p2 : pl 61 e = true) : RvD K (rEqP K false) ka x y (.val (.bl (eqD d e))) := fun B F0 ro ta sg H u v Q en h1 h2 q => by
  obtain ⟨F, g, ef⟩ := id en
  exact ⟨60, gH H, d, e, gH_exz, gH_nz, Nat.le_refl _, p1, p2, l1.get ef (ef.tm _ h1), l2.get ef (ef.tm _ h2), q _ _ (en.push_imm fun _ => rfl)⟩
theorem rv_neP {d e : D} (l1 : Pk ka x d) (l2 : Pk ka y e) (p1 : pl 61 d = true) (p2 : pl 61 e = true) : RvD K (rEqP K true) ka x y (.val (.bl (!eqD d e))) := fun B F0 ro ta sg H u v Q en h1 h2 q => by
  obtain ⟨F, g, ef⟩ := id en
  exact ⟨60, gH H, d, e, gH_exz, gH_nz, Nat.le_refl _, p1, p2, l1.get ef (ef.tm _ h1), l2.get ef (ef.tm _ h2), q _ _ (en.push_imm fun _ => rfl)⟩
end
end DL

/-! DO: operators that a class of the text defines (own work). -/
namespace DL
open PySem L2 PySem.W

section
variable {X : Cx} {CX : CXT} {k : Nat} {C f : Addr} {fd : FuncData} {ps : List Str} {sp : Sp} {E : XK}
/-- the type of a value, as the library looks for it -/
def TyL (X : Cx) (x : V) (H : Hp) (T : String) : Prop := ∀ pins s sg u, Inv X pins sg H s → RelV x u → Looks (model X.prog X.w) s.heap (typeOf u) (.type T)
/-! ### == and != by the class's own __eq__ -/
/-- a type against which x's class goes first: a built-in one, or the class itself -/
inductive TyE (X : Cx) (C : Addr) (H : Hp) : V → Prop where
  | ty {y : V} {T : String} (h : TyL X y H T) (s : subIn X.K (.type T) (.ref C) = some false) : TyE X C H y
  | own {a dx : Addr} {fs : List (Str × V)} (h : H a = some (.ins C dx fs)) : TyE X C H (.ref a)
end
end DL

/-! DF: defs by contract, instances, exceptions by data (own work). -/
namespace DL
open PySem L2 PySem.W

/-! ### defs -/
/-- the def at f keeps the contract C -/
def Fn (P : Program) (w : World) (K : PySem.W.Frag) (mg : Str → Option Value) (base : Heap) (k : Nat) (f : Addr) (ps : List Str) (C : Ct) : Prop := ∃ fd, FnOk P w K mg base (L2.CX P w) k f fd ps (spC K C) ∧ Binds K fd ps []
section
variable {P : Program} {w : World} {K : PySem.W.Frag} {mg : Str → Option Value} {base : Heap} {f : Addr} {fd : FuncData} {x qual : Str} {params : Arguments} {body : List Stmt} {scope : Scope} {ps N : List Str} {k j : Nat} {C : Ct}
theorem Fn.up (F : Fn P w K mg base j f ps C) (h : j ≤ k) : Fn P w K mg base k f ps C := let ⟨fd, a, b⟩ := F; ⟨fd, a.mono h, b⟩
theorem fn_okG {dvs : List V} (F : FunD K x qual params body scope dvs [] f fd) (S : FnScope N ps scope)
    (hl : ∀ ws ka out, C ws ka out → ws.length = ps.length)
    (h : ∀ (cdv : Value) (A : Around) (outer : List Env) (s : Shared) (H : Hp) (E : XK), Room k (A.deeper (PyProof.Rows.envOfC qual scope s.heap.objs.size f cdv)) →
      ∃ t, PSs (cxOf (L2.CX P w) P w K mg base N qual scope f cdv A outer s H E) body t ∧
        ∀ ws ka out B F0 Q, C ws ka out → RtOk K B F0 out Q → RxOk K B F0 out E → Gp K B F0 [] (t { nx := fun _ H' => Q .non H', rt := Q }) (ws.map some ++ List.replicate (N.length - ps.length) none) ka) : FnOk P w K mg base (L2.CX P w) (k + 1) f fd ps (spC K C) := by
  refine (F.ok S (fun vs H Q E h => ?_) (fun cdv A outer s H vs Q E hr hs => ?_))
  · obtain ⟨B, F', ws, ka, out, hC, l, _⟩ := h
    rw [l]
    exact hl _ _ _ hC
  · obtain ⟨t, d, p⟩ := h cdv A outer s H E hr
    obtain ⟨B, F0, ws, ka, out, hC, l, ⟨F1, g1, en⟩, hR, hX⟩ := hs
    refine ⟨t, d, p ws ka out B F0 Q hC hR hX _ H ⟨F1, g1, ?_⟩⟩
    have hw := hl _ _ _ hC
    refine (en.frame (ro' := ws.map some ++ List.replicate (N.length - ps.length) none) (sg' := L2.start N vs) ?_ fun i w2 e => ?_).held fun p hp => by cases hp
    · unfold L2.start
      rw [List.length_append, List.length_append, List.length_map, List.length_map, List.length_replicate, List.length_replicate, l, hw]
    · unfold L2.start
      by_cases hi : i < ws.length
      · rw [List.getElem?_append_left (by rw [List.length_map]; exact hi), List.getElem?_map, List.getElem?_eq_getElem hi] at e
        have e' : ws[i] = w2 := by simpa using e
        rw [List.getElem?_append_left (by rw [List.length_map, l]; exact hi), List.getElem?_map, List.getElem?_eq_getElem (by rw [l]; exact hi)]
        refine ⟨vs[i], rfl, ?_⟩
        have := en.tm (vs[i]'(by rw [l]; exact hi), ws[i]) (by
          have hz : (vs.zip ws)[i]? = some (vs[i]'(by rw [l]; exact hi), ws[i]) := by
            rw [List.getElem?_zip_eq_some]
            exact ⟨List.getElem?_eq_getElem _, List.getElem?_eq_getElem _⟩
          exact List.mem_of_getElem? hz)
        rw [e'] at this
        exact this
      · rw [List.getElem?_append_right (by rw [List.length_map]; omega), List.getElem?_replicate] at e
        split at e <;> cases e
theorem fn_okF (F : FunD K x qual params body scope [] [] f fd) (S : FnScope N ps scope)
    (hb : ∀ (kV doc pm : Value) (an : Option Addr) (cdv ct : Value) (us : List Value), us.length = ps.length → bindArgs (PySem.W.fnOf x qual params body scope .none kV doc pm an cdv ct) ⟨us, []⟩ = pure (ps.zip us))
    (hl : ∀ ws ka out, C ws ka out → ws.length = ps.length)
    (h : ∀ (cdv : Value) (A : Around) (outer : List Env) (s : Shared) (H : Hp) (E : XK), Room k (A.deeper (PyProof.Rows.envOfC qual scope s.heap.objs.size f cdv)) →
      ∃ t, PSs (cxOf (L2.CX P w) P w K mg base N qual scope f cdv A outer s H E) body t ∧
        ∀ ws ka out B F0 Q, C ws ka out → RtOk K B F0 out Q → RxOk K B F0 out E → Gp K B F0 [] (t { nx := fun _ H' => Q .non H', rt := Q }) (ws.map some ++ List.replicate (N.length - ps.length) none) ka) : FnOk P w K mg base (L2.CX P w) (k + 1) f fd ps (spC K C) := fn_okG F S hl h
theorem fn_ok (F : FunD K x qual params body scope [] [] f fd) (S : FnScope N ps scope)
    (hb : ∀ (kV doc pm : Value) (an : Option Addr) (cdv ct : Value) (us : List Value), us.length = ps.length → bindArgs (PySem.W.fnOf x qual params body scope .none kV doc pm an cdv ct) ⟨us, []⟩ = pure (ps.zip us))
    (hl : ∀ ws ka out, C ws ka out → ws.length = ps.length)
    (h : ∀ (cdv : Value) (A : Around) (outer : List Env) (s : Shared) (H : Hp) (E : XK), Room k (A.deeper (PyProof.Rows.envOfC qual scope s.heap.objs.size f cdv)) →
      ∃ t, PSs (cxOf (L2.CX P w) P w K mg base N qual scope f cdv A outer s H E) body t ∧
        ∀ ws ka out B F0 Q, C ws ka out → RtOk K B F0 out Q → RxOk K B F0 out E → Gp K B F0 [] (t { nx := fun _ H' => Q .non H', rt := Q }) (ws.map some ++ List.replicate (N.length - ps.length) none) ka) : Fn P w K mg base (k + 1) f ps C := ⟨fd, fn_okF F S hb hl h, F.bindsN hb⟩
end
/-- the def behind a contract, and what is known of it -/
noncomputable def Fn.fd {P : Program} {w : World} {K : PySem.W.Frag} {mg : Str → Option Value} {base : Heap} {k : Nat} {f : Addr} {ps : List Str} {C : Ct} (F : Fn P w K mg base k f ps C) : FuncData := Classical.choose F
theorem Fn.ok {P : Program} {w : World} {K : PySem.W.Frag} {mg : Str → Option Value} {base : Heap} {k : Nat} {f : Addr} {ps : List Str} {C : Ct} (F : Fn P w K mg base k f ps C) : FnOk P w K mg base (L2.CX P w) k f F.fd ps (spC K C) := (Classical.choose_spec F).1
theorem Fn.bn {P : Program} {w : World} {K : PySem.W.Frag} {mg : Str → Option Value} {base : Heap} {k : Nat} {f : Addr} {ps : List Str} {C : Ct} (F : Fn P w K mg base k f ps C) : Binds K F.fd ps [] := (Classical.choose_spec F).2
section
variable {X : Cx}
theorem passes_no : Passes (L2.CX X.prog X.w) X (fun _ _ _ => False) := fun _ _ _ _ _ _ _ ⟨_, _, _, _, _, _, _, _, _, _, _, _, z⟩ => z.elim
end
end DL

/-! DG: instances by data (own work). -/
namespace DL
open PySem L2 PySem.W

section
variable {K : PySem.W.Frag} {B F F0 : Hp} {ro : Ro} {ka k1 k2 k3 kr : Cells} {ta : List (V × W)} {sg : L2.St} {H H' : Hp} {te tf tg : TE} {tr : TA} {tt : TT} {w x y z : W} {n : Nd} {C dx a : Addr} {fs : List (Str × D)} {b : Bool}

theorem rpf_lookup {F : Hp} : ∀ {fs : List (Str × D)} {xs : List (Str × V)} {f : Str} {d : D}, RpF K F fs xs → fs.lookup f = some d → ∃ v, xs.lookup f = some v ∧ Rp K F d v
  | [], _, _, _, _, e => by cases e
  | (g, d0) :: fs, xs, f, d, h, e => by
    obtain ⟨x, ys, rfl, h1, h2⟩ := h
    unfold List.lookup at e ⊢
    cases q : (f == g) with
    | true =>
      rw [q] at e
      cases e
      exact ⟨x, rfl, h1⟩
    | false =>
      rw [q] at e
      exact rpf_lookup h2 e
theorem rpf_none {F : Hp} : ∀ {fs : List (Str × D)} {xs : List (Str × V)} {f : Str}, RpF K F fs xs → fs.lookup f = none → xs.lookup f = none
  | [], xs, f, h, _ => by rw [show xs = [] from h]; rfl
  | (g, d0) :: fs, xs, f, h, e => by
    obtain ⟨x, ys, rfl, h1, h2⟩ := h
    unfold List.lookup at e ⊢
    cases q : (f == g) with
    | true => rw [q] at e; cases e
    | false => rw [q] at e; exact rpf_none h2 e
/-- w is an instance of the class at C with the fields fs; b: viewed -/
inductive Io (ka : Cells) : W → Addr → List (Str × D) → Bool → Prop where
  | v {D1 : Addr} {gs : List (Str × D)} : Io ka (.val (.ins D1 gs)) D1 gs false
  | w {D1 : Addr} {gs : List (Str × D)} : Io ka (.vw (.ins D1 gs)) D1 gs true
  | c {p D1 : Addr} {gs : List (Str × D)} (j : Nat) (h : ka[j]? = some (p, .ins D1 gs)) : Io ka (.val (.adr p)) D1 gs false
theorem rd_ins {H : Hp} {dx : Addr} {xs : List (Str × V)} (n : Nz F) (e : Exz F H) (h : Rd F a (.ins C dx xs)) : H a = some (.ins C dx xs) := by
  rcases h with h | ⟨o, h⟩
  · exact e.at h rfl
  · have := n a _ h
    cases this
/-- the built-in type of a value, by the abstract heap -/
inductive TyV (K : PySem.W.Frag) (H : Hp) : V → String → Prop where
  | non : TyV K H .non "NoneType"
  | bl {b : Bool} : TyV K H (.bl b) "bool"
  | int {b : Int} : TyV K H (.int b) "int"
  | str {b : Str} : TyV K H (.str b) "str"
  | lst {a : Addr} {xs : List V} (h : SqL K H a xs) : TyV K H (.ref a) "list"
  | tup {a : Addr} {xs : List V} (h : SqT K H a xs) : TyV K H (.ref a) "tuple"
inductive TyE2 (K : PySem.W.Frag) (C : Addr) (H : Hp) : V → Prop where
  | ty {y : V} {T : String} (h : TyV K H y T) (s : subIn K (.type T) (.ref C) = some false) : TyE2 K C H y
  | own {a dx : Addr} {gs : List (Str × V)} (h : H a = some (.ins C dx gs)) : TyE2 K C H (.ref a)
theorem Io.get {v : V} (l : Io ka w C fs b) (e : EnF K B F ro ka ta sg H) (h : WOk K B F v w) : ∃ a dx xs, v = .ref a ∧ H a = some (.ins C dx xs) ∧ RpF K (if b then uni B F else F) fs xs := by
  cases l with
  | v =>
    obtain ⟨a, dx, xs, rfl, h1, h2⟩ := h
    exact ⟨a, dx, xs, rfl, rd_ins e.nz e.fz h1, h2⟩
  | w =>
    obtain ⟨a, dx, xs, rfl, h1, h2⟩ := h
    exact ⟨a, dx, xs, rfl, rd_ins (uni_nz e.nz) (uni_exz e.fz e.fr) h1, h2⟩
  | @c a C fs j hj =>
    obtain ⟨_, _, dx, xs, h1, h2⟩ := e.ce _ (List.mem_of_getElem? hj)
    exact ⟨a, dx, xs, h, h1, h2⟩
theorem Io.en {v : V} (l : Io ka w C fs b) (e : En K B F0 ro ka ta sg H) (h : (v, w) ∈ ta) : ∃ a dx xs, v = .ref a ∧ H a = some (.ins C dx xs) := by
  obtain ⟨F, g, e⟩ := e
  obtain ⟨a, dx, xs, h1, h2, _⟩ := l.get e (e.tm _ h)
  exact ⟨a, dx, xs, h1, h2⟩
/-- o.f, a field -/
theorem ev_fld {f : Str} {d : D} (h : EvD K te ro ka w k1) (l : Io k1 w C fs b) (c : Cls K C) (nf : NoAttr K C f) (hd : fs.lookup f = some d) : EvD K (tFld K te f) ro ka (part b d) k1 := fun B F0 ta sg H Q e q => h B F0 ta sg H _ e fun v H1 e1 => by
  obtain ⟨F, g, e1⟩ := e1
  obtain ⟨a, dx, xs, rfl, h1, h2⟩ := l.get e1 (e1.tm _ List.mem_cons_self)
  obtain ⟨v, h3, h4⟩ := rpf_lookup h2 hd
  refine ⟨a, C, dx, xs, v, rfl, h1, c, nf, h3, q v H1 ⟨F, g, ?_⟩⟩
  exact (e1.held (ta' := ta) fun p hp => List.mem_cons_of_mem _ hp).push (wok_part b h4)

/-! ### calls by contract: how they end -/
/-- the call ends with an exception of the class C1 -/
theorem sp_exc {Cc : Ct} {ws : List W} {out : Out → Cells → Prop} {vs : List V} {E : XK} {Q : VK} {C1 : Addr} {fs : List (Str × D)} (e : En K B F0 ro (ka ++ kr) (vs.zip ws ++ ta) sg H) (hl : vs.length = ws.length) (hC : Cc ws ka out) (ho : ∀ o k, out o k → o = .exc C1 fs ∧ k = k2)
    (q : ∀ dx H', En K B F0 ro (k2 ++ [(dx, .xd fs)] ++ kr) ta sg H' → E (.ref C1) (some dx) H') : spC K Cc vs H Q E := by
  obtain ⟨F, g, e⟩ := e
  refine ⟨off H ka, F, ws, ka, out, hC, hl, ⟨F, Gr.refl _ _, e.into (ro' := []) (sg' := []) (ta' := vs.zip ws) rfl (fun i w h => by simp at h) fun p hp => List.mem_append_left _ hp⟩, fun d' k v H' o _ => ?_, fun C fs k dx H' o ⟨F', g', e'⟩ => ?_, fun C k H' o _ => ?_⟩
  · have := (ho _ _ o).1
    cases this
  · obtain ⟨hd, rfl⟩ := ho _ _ o
    cases hd
    obtain ⟨g2, e2⟩ := e.back g' e' (tb := ta) fun p hp => .inl (List.mem_append_right _ hp)
    exact q dx H' ⟨F', g.trans g2, e2⟩
  · have := (ho _ _ o).1
    cases this
/-- the call comes back with a new cell -/
theorem sp_new {Cc : Ct} {ws : List W} {out : Out → Cells → Prop} {vs : List V} {E : XK} {Q : VK} {m : Nd} (e : En K B F0 ro (ka ++ kr) (vs.zip ws ++ ta) sg H) (hl : vs.length = ws.length) (hC : Cc ws ka out) (ho : ∀ o k, out o k → ∃ a, o = .ret (.adr a) ∧ k = k2 ++ [(a, m)])
    (q : ∀ a H', En K B F0 ro (k2 ++ kr ++ [(a, m)]) ta sg H' → Q (.ref a) H') : spC K Cc vs H Q E := by
  obtain ⟨F, g, e⟩ := e
  refine ⟨off H ka, F, ws, ka, out, hC, hl, ⟨F, Gr.refl _ _, e.into (ro' := []) (sg' := []) (ta' := vs.zip ws) rfl (fun i w h => by simp at h) fun p hp => List.mem_append_left _ hp⟩, fun d' k v H' o ⟨F', g', e'⟩ => ?_, fun C fs k dx H' o _ => ?_, fun C k H' o _ => ?_⟩
  · obtain ⟨a, hd, rfl⟩ := ho _ _ o
    cases hd
    have hv : v = .ref a := e'.tm (v, .val (.adr a)) List.mem_cons_self
    subst hv
    obtain ⟨g2, e2⟩ := e.back g' e' (tb := ta) fun p hp => .inl (List.mem_append_right _ hp)
    refine q a H' ⟨F', g.trans g2, e2.perm ?_⟩
    rw [List.append_assoc, List.append_assoc]
    exact List.Perm.append_left _ List.perm_append_comm
  · obtain ⟨a, z, _⟩ := ho _ _ o
    cases z
  · obtain ⟨a, z, _⟩ := ho _ _ o
    cases z
theorem evn_call {Cc : Ct} {ws : List W} {out : Out → Cells → Prop} {E : XK} {m : Nd} (kr : Cells) (ha : EvA K tr ro ka ws (k1 ++ kr)) (hC : Cc ws k1 out) (ho : ∀ o k, out o k → ∃ a, o = .ret (.adr a) ∧ k = k2 ++ [(a, m)]) : EvN K (tCall (spC K Cc) [] E tr) ro ka m (k2 ++ kr) := fun B F0 ta sg H Q e q =>
  ha B F0 ta sg H _ e fun vs H1 hl e1 => by
    rw [List.append_nil]
    exact sp_new e1 hl hC ho q
/-- o.f, a property -/
theorem ev_prop {Cc : Ct} {out : Out → Cells → Prop} {E : XK} {d : D} (kr : Cells) (h : EvD K te ro ka w (k1 ++ kr)) (l : Io (k1 ++ kr) w C fs b) (hC : Cc [w] k1 out) (ho : ∀ o k, out o k → o = .ret d ∧ k = k1) : EvD K (tProp C (spC K Cc) [] E te) ro ka (.val d) (k1 ++ kr) := fun B F0 ta sg H Q e q => h B F0 ta sg H _ e fun u H1 e1 => by
  obtain ⟨a, dx, xs, rfl, ha⟩ := l.en e1 List.mem_cons_self
  exact ⟨a, dx, xs, rfl, ha, sp_ret (vs := [.ref a]) (ws := [w]) (ta := ta) e1 rfl hC ho q⟩
/-- own == own, own != own, or a built-in's value -/
inductive Eo (ka : Cells) : W → Addr → Prop where
  | io {u : W} {D1 : Addr} {gs : List (Str × D)} {b1 : Bool} (l : Io ka u D1 gs b1) : Eo ka u D1
  | non {D1 : Addr} : Eo ka (.val .non) D1
  | bl {b1 : Bool} {D1 : Addr} : Eo ka (.val (.bl b1)) D1
  | int {b1 : Int} {D1 : Addr} : Eo ka (.val (.int b1)) D1
  | str {b1 : Str} {D1 : Addr} : Eo ka (.val (.str b1)) D1
  | sq {u : W} {t b1 : Bool} {ds : List D} {D1 : Addr} (l : Lk ka u t ds b1) : Eo ka u D1
theorem Eo.at {u : V} (hT : EqT K C) (l : Eo ka y C) (e : En K B F0 ro ka ta sg H) (h : (u, y) ∈ ta) : TyE2 K C H u := by
  cases l with
  | io l =>
    obtain ⟨a, dx, xs, rfl, ha⟩ := l.en e h
    exact .own ha
  | non =>
    obtain rfl := e.tm_non h
    exact .ty .non (hT _ (by simp))
  | bl =>
    obtain rfl := e.tm_bl h
    exact .ty .bl (hT _ (by simp))
  | int =>
    obtain rfl := e.tm_int h
    exact .ty .int (hT _ (by simp))
  | str =>
    obtain rfl := e.tm_str h
    exact .ty .str (hT _ (by simp))
  | @sq x t ds b C l =>
    obtain ⟨F, g, e⟩ := e
    obtain ⟨a, xs, rfl, h1, _⟩ := l.get e (e.tm _ h)
    cases t with
    | false => exact .ty (.lst (.inl h1)) (hT _ (by simp))
    | true => exact .ty (.tup h1) (hT _ (by simp))
/-- own << other and the like: the other of a built-in type -/
structure TyWf (K : PySem.W.Frag) (C : Addr) (op : Operator) (ka : Cells) (y : W) : Prop where
  at_ : ∀ B F0 ro ta sg H u, En K B F0 ro ka ta sg H → (u, y) ∈ ta → ∃ T, TyV K H u T ∧ BoT K C op T
end
end DL

/-! DH: making objects, isinstance, conversions, exceptions by data (own work). -/
namespace DL
open PySem L2 PySem.W

section
variable {K : PySem.W.Frag} {B F F0 : Hp} {ro : Ro} {ka k1 k2 k3 kr : Cells} {ta : List (V × W)} {sg : L2.St} {H H' : Hp} {te tf tg : TE} {tr : TA} {tt : TT} {w x y z : W} {n : Nd} {C dx a : Addr} {fs : List (Str × D)} {b : Bool} {P : L2.St → Hp → Prop}

/-! ### an instance cell, frozen -/
theorem En.freeze_i (e : En K B F0 ro (ka ++ [(a, .ins C fs)]) ta sg H) : En K B F0 ro ka ((.ref a, .val (.ins C fs)) :: ta) sg H := by
  obtain ⟨F, g, e⟩ := e
  obtain ⟨fa, ba, dx, xs, ha, rl⟩ := e.ce (a, .ins C fs) (by simp)
  have gg : Gr B F (upd F a (.ins C dx xs)) := ⟨Sub.new fa, fun b h1 h2 => by
    have ne : b ≠ a := fun q => h2 (q ▸ ba)
    rw [upd_ne ne]
    exact h1⟩
  have nd2 := e.nd
  rw [List.map_append, List.nodup_append] at nd2
  refine ⟨upd F a (.ins C dx xs), g.trans gg, ⟨fun b u h => ?_, fun b u h => ?_, e.fr, nd2.1, fun q hq => ?_, e.ln, fun i w h => ?_, fun q hq => ?_⟩⟩
  · by_cases hb : b = a
    · subst hb; rw [upd_same] at h; cases h; rfl
    · rw [upd_ne hb] at h; exact e.nz b u h
  · by_cases hb : b = a
    · subst hb; rw [upd_same] at h; cases h; exact .inl ha
    · rw [upd_ne hb] at h; exact e.fz b u h
  · obtain ⟨h1, h2, h3⟩ := e.ce q (List.mem_append_left _ hq)
    have nq : q.1 ≠ a := fun z => nd2.2.2 q.1 (List.mem_map.mpr ⟨q, hq, rfl⟩) a (by simp) z
    exact ⟨by rw [upd_ne nq]; exact h1, h2, ndok_gr e.nz gg h3⟩
  · obtain ⟨v, h1, h2⟩ := e.sl i w h
    exact ⟨v, h1, wok_gr e.nz gg h2⟩
  · rcases List.mem_cons.mp hq with rfl | hq
    · exact ⟨a, dx, xs, rfl, .inl upd_same, RpF.mono gg.sub.exz e.nz _ _ rl⟩
    · exact wok_gr e.nz gg (e.tm q hq)
theorem EvN.ins {fs : List (Str × D)} (h : EvN K te ro ka (.ins C fs) k1) : EvD K te ro ka (.val (.ins C fs)) k1 := fun B F0 ta sg H Q e q => h B F0 ta sg H Q e fun a H1 e1 => q _ _ e1.freeze_i
/-- fewer cells -/
theorem En.less (e : En K B F0 ro ka ta sg H) (h : k1.Sublist ka) : En K B F0 ro k1 ta sg H := let ⟨F, g, q⟩ := e; ⟨F, g, q.cells h⟩
theorem EvD.less (h : EvD K te ro ka w k1) (s : k2.Sublist k1) : EvD K te ro ka w k2 := fun B F0 ta sg H Q e q => h B F0 ta sg H Q e fun v H1 e1 => q v H1 (e1.less s)
theorem Gp.less (h : Gp K B F0 ta P ro k1) (s : k1.Sublist ka) : Gp K B F0 ta P ro ka := fun sg H e => h sg H (e.less s)
theorem En.forget (e : En K B F0 ro ka ta sg H) {ro' : Ro} (hl : ro'.length = ro.length) (h : ∀ (i : Nat) w, ro'[i]? = some (some w) → ro[i]? = some (some w)) : En K B F0 ro' ka ta sg H := let ⟨F, g, q⟩ := e; ⟨F, g, q.forget hl h⟩

/-- self.f = e, self a cell -/
def putD (f : Str) (v : D) : List (Str × D) → List (Str × D)
  | [] => [(f, v)]
  | (g, x) :: r => if g = f then (g, v) :: r else (g, x) :: putD f v r
theorem rpf_put {F : Hp} {f : Str} {v : V} {d : D} (hv : Rp K F d v) : ∀ {fs : List (Str × D)} {xs : List (Str × V)}, RpF K F fs xs → RpF K F (putD f d fs) (putF f v xs)
  | [], xs, h => by rw [show xs = [] from h]; exact ⟨v, [], rfl, hv, rfl⟩
  | (g, d0) :: fs, xs, h => by
    obtain ⟨x, ys, rfl, h1, h2⟩ := h
    unfold putD putF
    by_cases q : g = f
    · rw [if_pos q, if_pos q]
      exact ⟨v, ys, rfl, hv, h2⟩
    · rw [if_neg q, if_neg q]
      exact ⟨x, _, rfl, h1, rpf_put hv h2⟩
theorem rpf_len {F : Hp} : ∀ {fs : List (Str × D)} {xs : List (Str × V)}, RpF K F fs xs → xs.length = fs.length
  | [], xs, h => by rw [show xs = [] from h]; rfl
  | _ :: fs, xs, h => by
    obtain ⟨x, ys, rfl, _, h2⟩ := h
    rw [List.length_cons, List.length_cons, rpf_len h2]
/-! ### isinstance -/
/-- the type of what w stands for -/
inductive Tw (K : PySem.W.Frag) (ka : Cells) : W → Value → Prop where
  | non : Tw K ka (.val .non) (.type "NoneType")
  | bl {i : Bool} : Tw K ka (.val (.bl i)) (.type "bool")
  | int {i : Int} : Tw K ka (.val (.int i)) (.type "int")
  | str {i : Str} : Tw K ka (.val (.str i)) (.type "str")
  | lst {u : W} {ds : List D} {b1 : Bool} (l : Lk ka u false ds b1) : Tw K ka u (.type "list")
  | tup {u : W} {ds : List D} {b1 : Bool} (l : Lk ka u true ds b1) : Tw K ka u (.type "tuple")
  | io {u : W} {D1 : Addr} {gs : List (Str × D)} {b1 : Bool} (l : Io ka u D1 gs b1) (c : ClsI K D1) : Tw K ka u (.ref D1)
theorem Tw.at {t : Value} {v : V} (l : Tw K ka w t) (e : En K B F0 ro ka ta sg H) (h : (v, w) ∈ ta) : TyX K H v t := by
  cases l with
  | non => obtain rfl := e.tm_non h; exact .base .non
  | bl => obtain rfl := e.tm_bl h; exact .base (.bl _)
  | int => obtain rfl := e.tm_int h; exact .base (.int _)
  | str => obtain rfl := e.tm_str h; exact .base (.str _)
  | lst l =>
    obtain ⟨F, g, e⟩ := e
    obtain ⟨a, xs, rfl, h1, _⟩ := l.get e (e.tm _ h)
    rcases (show Rd H a (.lst xs) from h1) with h1 | ⟨o, h1⟩
    · exact .base (.lst h1)
    · exact .base (.frz h1)
  | tup l =>
    obtain ⟨F, g, e⟩ := e
    obtain ⟨a, xs, rfl, h1, _⟩ := l.get e (e.tm _ h)
    rcases (show SqT K H a xs from h1) with h1 | h1
    · rcases h1 with h1 | ⟨o, h1⟩
      · exact .base (.tup h1)
      · exact .fTuple h1
    · obtain ⟨o, its, n, q1, q2, _⟩ := h1
      exact .kTuple q1 q2
  | io l c =>
    obtain ⟨a, dx, xs, rfl, ha⟩ := l.en e h
    exact .base (.ins ha c.cl c.ha c.hn c.htk c.hm)
theorem rc_isi {T : String} {t : Value} {b : Bool} (l : Tw K ka w t) (h : kitOne K t (.type T) = some b) : RcD K (rIsi K) ka [w, .val (.ty T)] (.val (.bl b)) := fun B F0 ro ta sg H us Q e hl hm q => by
  obtain ⟨u, v, rfl, h1, h2⟩ := zip_two hl hm
  have hv : v = .ty T := e.tm_ty h2
  subst hv
  exact ⟨u, .ty T, t, .type T, b, rfl, .ty T, l.at e h1, h, q _ _ (e.push_imm fun _ => rfl)⟩
end
end DL

/-! DJ: raise, try, by data; conversions (own work). -/
namespace DL
open PySem L2 PySem.W

/-! ### own exception classes -/
theorem slots_six {sl : Array (Option Value)} (h : slotsOk sl = true) : ∃ a b c d e, sl = #[a, b, c, d, some (.builtin "ValueError.__new__"), e] := by
  obtain ⟨h1, h2⟩ := Bool.and_eq_true_iff.mp h
  have h1 := beq_iff_eq.mp h1
  have h2 := beq_iff_eq.mp h2
  obtain ⟨l⟩ := sl
  match l, h1, h2 with
  | [a, b, c, d, x, e], _, h2 =>
    have : x = some (.builtin "ValueError.__new__") := by simpa using h2
    exact ⟨a, b, c, d, e, by rw [this]⟩
theorem oexB_ok {K : PySem.W.Frag} {C : Addr} (h : oexB K C = true) : OexC K C := by
  have h := Bool.and_eq_true_iff.mp h
  have r1 := Bool.and_eq_true_iff.mp h.2
  have r2 := Bool.and_eq_true_iff.mp r1.2
  have r3 := Bool.and_eq_true_iff.mp r2.2
  refine ⟨?_, of_decide_eq_true r1.1, of_decide_eq_true r2.1, of_decide_eq_true r3.1, r3.2⟩
  obtain ⟨o, ho, h1⟩ : ∃ o, K.lookup C = some o ∧ errObj C o = true := by
    cases q : K.lookup C with
    | none => have := h.1; rw [q] at this; cases this
    | some o => have := h.1; rw [q] at this; exact ⟨o, rfl, this⟩
  have k1 := Bool.and_eq_true_iff.mp h1
  have k2 := Bool.and_eq_true_iff.mp k1.2
  have hc := beq_iff_eq.mp k1.1
  obtain ⟨s0, s1, s2, s3, s5, hs⟩ := slots_six k2.1
  obtain ⟨oc, od, dt, sl⟩ := o
  cases dt with
  | cls cd =>
    have l1 := Bool.and_eq_true_iff.mp (show (!cd.hasDel && (cd.hasDict && _)) = true from k2.2)
    have l2 := Bool.and_eq_true_iff.mp l1.2
    have hdel : cd.hasDel = false := by simpa using l1.1
    have hdict : cd.hasDict = true := l2.1
    cases hm : cd.mro with
    | nil => have := l2.2; rw [hm] at this; cases this
    | cons x r =>
      have l3 : (x == .ref C && PySem.HandSPX.refsVE r) = true := by have := l2.2; rw [hm] at this; exact this
      have l4 := Bool.and_eq_true_iff.mp l3
      have hx := beq_iff_eq.mp l4.1
      refine ⟨cd.name, cd.qualname, cd.ns, cd.bases, r, cd.slotNames, cd.subclasses, cd.abstract, cd.collection, od, s0, s1, s2, s3, s5, ?_, l4.2⟩
      rw [ho]
      have hc : oc = .type "type" := hc
      have hs : sl = _ := hs
      subst hc hs hx
      cases cd
      cases hm
      cases hdel
      cases hdict
      rfl
  | _ => cases k2.2
/-- what a raised own error with fields asks of the text -/
structure Xc (K : PySem.W.Frag) (C : Addr) : Prop where
  oex : OexC K C
  xf : XfC K C
theorem xcB_ok {K : PySem.W.Frag} {C : Addr} (h : xcB K C = true) : Xc K C := let ⟨a, b⟩ := Bool.and_eq_true_iff.mp h; ⟨oexB_ok a, xfB_ok b⟩
/-- __init__(self, x): self.f = x -/
def spI1 (K : PySem.W.Frag) (C : Addr) (f : Str) : Sp := fun vs H Q _ => ∃ a y, vs = [.ref a, y] ∧ OexC K C ∧ findIn K (.ref C) f = some none ∧ H a = some (exo a C none) ∧
  ∀ d, H d = none → d ≠ a → Q .non (upd (upd H d (exd d [(f, y)])) a (exo a C (some d)))
theorem init1_ok {P : Program} {w : World} {K : PySem.W.Frag} {mg : Str → Option Value} {base : Heap} {f C : Addr} {fd : FuncData} {nm qual x fld : Str} {params : Arguments} {body : List Stmt} {scope : Scope} {k : Nat} {CX : CXT}
    (F : FunD K nm qual params body scope [] [] f fd) (S : FnScope ["self", x] ["self", x] scope)
    (h : ∀ (cdv : Value) (A : Around) (outer : List Env) (s : Shared) (H : Hp) (E : XK), PSs (cxOf CX P w K mg base ["self", x] qual scope f cdv A outer s H E) body (tOst K fld (tVar 0) (tVar 1))) : FnOk P w K mg base CX (k + 1) f fd ["self", x] (spI1 K C fld) :=
  F.ok S (fun vs H Q E ⟨a, y, e, _⟩ => by rw [e]; rfl) fun cdv A outer s H vs Q E hr ⟨a, y, e, T, hno, ha, q⟩ => ⟨_, h cdv A outer s H E, by
    subst e
    exact ⟨y, rfl, .ref a, rfl, a, C, rfl, T, hno, .inl ⟨ha, q⟩⟩⟩
/-- an own error class made without arguments: a new object, no fields -/
theorem pmk_zero {X : Cx} {C : Addr} {mros : List Value} {base new ini : String} {x : Str} {p pos : Pos} (facts : PySem.ExcBaseFacts base new ini mros) (known : excIn X.K C mros new = true) (here : X.mg x = some (.ref C)) (kept : keepIn X.K (.ref C) = true) (up : Raises X (.ref C)) (glob : Gl X x)
    (plain : (x == ("__debug__" : Str)) = false := by decide) : PMk X (.Call (.Name x p) [] [] pos) (fun _ H Q => Q (.ref C) none H) := fun pins s sg H Q I want => by
  obtain ⟨mro, ns, cn, qn, bases, dct, slots, subs, abst, coll, dd, a0, a1, a2, a3, a5, mN, look, space, noInit, tail⟩ := exc_obj I.kIn known
  have made := PySem.wpAny_call_exc_subT (prog := X.prog) (w := X.w) (A := X.A) (Q := MkP X pins sg Q) (E := X.xe) (rest := []) facts tail look space noInit (fun h' e new => mk_of (I.tok _) new up want (I.hok.gone new.new)) (Nat.zero_le _)
  exact wpAny_Call_Name_kw (ld_glob (pos := p) (E := X.xe) I glob here (callWith_K0 (first := []) I.kIn kept made) plain)

section
variable {K : PySem.W.Frag} {B F F0 : Hp} {ro : Ro} {ka k1 k2 k3 kr : Cells} {ta : List (V × W)} {sg : L2.St} {H H' : Hp} {te tf tg : TE} {tr : TA} {tt : TT} {w x y z : W} {n : Nd} {C dx a : Addr} {fs : List (Str × D)} {b : Bool} {P : L2.St → Hp → Prop}
theorem mk1_of {fld : Str} {d : D} {Q : XK} (ha : EvA K tr ro ka [.val d] k1) (T : OexC K C) (hno : findIn K (.ref C) fld = some none) (e : En K B F0 ro ka ta sg H)
    (q : ∀ dx H', En K B F0 ro (k1 ++ [(dx, .xd [(fld, d)])]) ta sg H' → Q (.ref C) (some dx) H') : tMkO C (spI1 K C fld) [] tr sg H Q := ha B F0 ta sg H _ e fun vs H1 hl e1 => by
  match vs, hl with
  | [v], _ =>
    refine ⟨by show 1 ≤ 1000; omega, fun a hna => ⟨a, v, rfl, T, hno, upd_same, fun dd hd hne => ⟨rfl, dd, [(fld, v)], upd_same, ?_, ?_, ?_⟩⟩⟩
    · rw [upd_ne hne, upd_same]
    · rwa [upd_ne hne] at hd
    · have hd1 : H1 dd = none := by rwa [upd_ne hne] at hd
      have eH : upd (del (upd (upd (upd H1 a (exo a C none)) dd (exd dd [(fld, v)])) a (exo a C (some dd))) a) dd (.xd [(fld, v)]) = upd H1 dd (.xd [(fld, v)]) := by
        funext b
        by_cases h1 : b = dd
        · subst h1
          rw [upd_same, upd_same]
        · rw [upd_ne h1, upd_ne h1]
          by_cases h2 : b = a
          · subst h2
            rw [del_same, hna]
          · rw [del_ne h2, upd_ne h2, upd_ne h1, upd_ne h2]
      rw [eH]
      obtain ⟨F, g, e1⟩ := e1
      have hv : WOk K B F v (.val d) := e1.tm _ (List.mem_append_left _ List.mem_cons_self)
      exact q dd _ ⟨F, g, (e1.cell (o := .xd [(fld, v)]) hd1 (n := .xd [(fld, d)]) ⟨_, upd_same, v, [], rfl, hv, rfl⟩).held fun p hp => List.mem_append_right _ hp⟩
theorem En.leaveX (e : En K B F0 ro ka ta sg H) : En K B F0 [] ka [] [] H :=
  let ⟨F, g, q⟩ := e
  ⟨F, g, (q.frame (ro' := []) (sg' := []) rfl fun i w h => by simp at h).held fun p hp => by cases hp⟩
theorem g_raise1 {fld : Str} {d : D} {out : Out → Cells → Prop} {E : XK} (hX : RxOk K B F0 out E) (ha : EvA K tr ro ka [.val d] k1) (T : OexC K C) (hno : findIn K (.ref C) fld = some none) (o : out (.exc C [(fld, d)]) k1) :
    Gp K B F0 ta (fun σ H => tMkO C (spI1 K C fld) [] tr σ H fun cls dd H' => E cls dd H') ro ka := fun sg H e => mk1_of ha T hno e fun dx H' e' => hX.1 C _ k1 dx H' o e'.leaveX
theorem g_raise0 {out : Out → Cells → Prop} {E : XK} (hX : RxOk K B F0 out E) (o : out (.exc0 C) ka) : Gp K B F0 ta (fun σ H => E (.ref C) none H) ro ka := fun sg H e => hX.2 C ka H o e.leaveX

/-- e.f of the exception -/
theorem ev_xf {f : Str} {d : D} {j : Nat} (he : EvD K te ro ka (.val (.adr a)) k1) (hj : k1[j]? = some (dx, .xd fs)) (hd : fs.lookup f = some d) : EvD K (tXf a (.ref C) (some dx) C f te) ro ka (.val d) k1 := fun B F0 ta sg H Q e q => he B F0 ta sg H _ e fun v H1 e1 => by
  have hv := e1.tm_adr List.mem_cons_self
  subst hv
  obtain ⟨F, g, e1⟩ := e1
  obtain ⟨_, _, xs, hx, rx⟩ := e1.ce _ (List.mem_of_getElem? hj)
  obtain ⟨v, l, rv⟩ := rpf_lookup rx hd
  exact ⟨rfl, rfl, dx, xs, v, rfl, hx, l, q v H1 ⟨F, g, (e1.held (ta' := ta) fun p hp => List.mem_cons_of_mem _ hp).push rv⟩⟩

/-! ### conversions -/
def rTupU (K : PySem.W.Frag) : List V → Hp → VK → Prop := fun xs H Q => ∃ p ys, xs = [.ref p] ∧ ((SqL K H p ys ∧ ∀ l, H l = none → Q (.ref l) (upd H l (.tup ys))) ∨ (SqT K H p ys ∧ Q (.ref p) H))
def rLstU (K : PySem.W.Frag) : List V → Hp → VK → Prop := fun xs H Q => ∃ p ys, xs = [.ref p] ∧ (SqL K H p ys ∨ SqT K H p ys) ∧ ∀ l, H l = none → Q (.ref l) (upd H l (.lst ys))
def rIntU : List V → Hp → VK → Prop := fun xs H Q => (∃ i, xs = [.int i] ∧ Q (.int i) H) ∨ ∃ k, xs = [.bl k] ∧ Q (.int (if k then 1 else 0)) H
theorem call_tupU {X : Cx} : CallR X (.type "tuple") (rTupU X.K) := call_tuple_of
theorem call_lstU {X : Cx} : CallR X (.type "list") (rLstU X.K) := call_list_of
theorem call_intU {X : Cx} : CallR X (.type "int") rIntU := call_int1
theorem rpl_imm {F G : Hp} : ∀ {ds : List D} {xs : List V}, ds.all imm = true → RpL K F ds xs → RpL K G ds xs
  | [], _, _, h => h
  | d :: ds, xs, hi, h => by
    obtain ⟨x, ys, rfl, h1, h2⟩ := h
    rw [List.all_cons, Bool.and_eq_true] at hi
    exact ⟨x, ys, rfl, imm_any hi.1 h1, rpl_imm hi.2 h2⟩
/-- a sequence's items may be told as frozen -/
def SqF (b : Bool) (ds : List D) : Prop := b = false ∨ ds.all imm = true
theorem SqF.to {ds : List D} {xs : List V} (h : SqF b ds) (r : RpL K (if b then uni B F else F) ds xs) : RpL K F ds xs := by
  rcases h with h | h
  · subst h; exact r
  · exact rpl_imm h r
theorem rc_tupL {ds : List D} (l : Lk ka w false ds b) (hf : SqF b ds) : RcD K (rTupU K) ka [w] (.val (.tup ds)) := fun B F0 ro ta sg H us Q e hl hm q => by
  obtain ⟨u, rfl, hu⟩ := zip_one hl hm
  obtain ⟨F, g, e⟩ := e
  obtain ⟨a, xs, rfl, h1, h2⟩ := l.get e (e.tm _ hu)
  have r2 := hf.to h2
  refine ⟨a, xs, rfl, .inl ⟨.inl h1, fun p hp => q _ _ ?_⟩⟩
  obtain ⟨e4, g4⟩ := e.lay (o := .tup xs) hp rfl
  exact ⟨_, g.trans g4, e4.push ⟨p, _, rfl, .inl (.inl upd_same), RpL.mono g4.sub.exz e.nz _ _ r2⟩⟩
theorem rcn_lst {t : Bool} {ds : List D} (l : Lk ka w t ds b) (hf : SqF b ds) : RcN K (rLstU K) ka [w] (.lst ds) := fun B F0 ro ta sg H us Q e hl hm q => by
  obtain ⟨u, rfl, hu⟩ := zip_one hl hm
  obtain ⟨F, g, e⟩ := e
  obtain ⟨a, xs, rfl, h1, h2⟩ := l.at e (e.tm _ hu)
  have r2 := hf.to h2
  exact ⟨a, xs, rfl, h1, fun p hp => q p _ ⟨F, g, e.cell (o := .lst xs) hp (n := .lst ds) ⟨_, upd_same, r2⟩⟩⟩
theorem rc_int {i : Int} : RcD K rIntU ka [.val (.int i)] (.val (.int i)) := fun B F0 ro ta sg H us Q e hl hm q => by
  obtain ⟨u, rfl, hu⟩ := zip_one hl hm
  obtain rfl := e.tm_int hu
  exact .inl ⟨i, rfl, q _ _ (e.push_imm fun _ => rfl)⟩
theorem rpl_bls {F : Hp} : ∀ {bs : List Bool} {xs : List V}, RpL K F (bs.map D.bl) xs → xs = bs.map V.bl
  | [], _, h => h
  | b :: bs, xs, h => by
    obtain ⟨x, ys, rfl, h1, h2⟩ := h
    rw [show x = V.bl b from h1, rpl_bls h2]
    rfl
theorem rc_all {bs : List Bool} (l : Lk ka w false (bs.map D.bl) b) : RcD K (rAll K) ka [w] (.val (.bl (bs.all id))) := fun B F0 ro ta sg H us Q e hl hm q => by
  obtain ⟨u, rfl, hu⟩ := zip_one hl hm
  obtain ⟨F, g, e⟩ := e
  obtain ⟨a, xs, rfl, h1, h2⟩ := l.get e (e.tm _ hu)
  have := rpl_bls h2
  subst this
  exact ⟨a, bs, rfl, .inl h1, q _ _ ⟨F, g, e.push rfl⟩⟩
/-- a sign in a text -/
theorem rv_inS {c : Nat} {s : Str} : RvD K rInS ka (.val (.str ⟨#[c]⟩)) (.val (.str s)) (.val (.bl (decide (c ∈ s.cps.toList)))) := fun B F0 ro ta sg H u v Q e h1 h2 q =>
  ⟨c, s, e.tm_str h1, e.tm_str h2, q _ _ (e.push_imm fun _ => rfl)⟩
theorem rpl_ints {F : Hp} : ∀ (zs : List Int), RpL K F (zs.map D.int) (zs.map V.int)
  | [] => rfl
  | z :: zs => ⟨.int z, _, rfl, rfl, rpl_ints zs⟩
/-- a slot's cell is frozen -/
theorem Gp.frz {i j : Nat} {ds : List D} (hi : ro[i]? = some (some (.val (.adr a)))) (hj : ka[j]? = some (a, .lst ds)) (h : Gp K B F0 ta P (ro.set i (some (.val (.lst ds)))) (ka.eraseIdx j)) : Gp K B F0 ta P ro ka := fun sg H e => by
  have hp : (ka.eraseIdx j ++ [(a, Nd.lst ds)]).Perm ka := by
    have hlt := (List.getElem?_eq_some_iff.mp hj).1
    have h2 : ka[j] = (a, Nd.lst ds) := (List.getElem?_eq_some_iff.mp hj).2
    have e3 : ka = ka.take j ++ (a, Nd.lst ds) :: ka.drop (j + 1) := by
      rw [← h2, List.getElem_cons_drop, List.take_append_drop]
    rw [List.eraseIdx_eq_take_drop_succ]
    refine List.Perm.trans List.perm_append_comm ?_
    show (((a, Nd.lst ds)) :: (ka.take j ++ ka.drop (j + 1))).Perm ka
    refine List.Perm.trans List.perm_middle.symm ?_
    rw [← e3]
  obtain ⟨F, g, e2⟩ := (e.perm hp).freeze_l
  refine h sg H ⟨F, g, (e2.frame (ro' := ro.set i (some (.val (.lst ds)))) (sg' := sg) (by rw [List.length_set]; exact e2.ln) fun k w q => ?_).held fun p hp => List.mem_cons_of_mem _ hp⟩
  by_cases hik : i = k
  · subst hik
    have hl := (List.getElem?_eq_some_iff.mp hi).1
    rw [List.getElem?_set_self hl] at q
    cases q
    obtain ⟨v, h1, h2⟩ := e2.sl i _ hi
    obtain rfl : v = .ref a := h2
    exact ⟨.ref a, h1, e2.tm _ List.mem_cons_self⟩
  · rw [List.getElem?_set_ne hik] at q
    exact e2.sl k w q
end
end DL

/-! DL1: contracts by number of arguments, bundles for the printed derivations (own work). -/
namespace DL
open PySem L2 PySem.W
abbrev Oc := Out → Cells → Prop
def Ct1 (R : W → Cells → Oc → Prop) : Ct := fun ws ka out => ∃ a, ws = [a] ∧ R a ka out
def Ct2 (R : W → W → Cells → Oc → Prop) : Ct := fun ws ka out => ∃ a b, ws = [a, b] ∧ R a b ka out
def Ct3 (R : W → W → W → Cells → Oc → Prop) : Ct := fun ws ka out => ∃ a b c, ws = [a, b, c] ∧ R a b c ka out
def Ct4 (R : W → W → W → W → Cells → Oc → Prop) : Ct := fun ws ka out => ∃ a b c d, ws = [a, b, c, d] ∧ R a b c d ka out
theorem ct1_len {R} : ∀ ws ka out, Ct1 R ws ka out → ws.length = 1 := fun _ _ _ ⟨_, h, _⟩ => by rw [h]; rfl
theorem ct2_len {R} : ∀ ws ka out, Ct2 R ws ka out → ws.length = 2 := fun _ _ _ ⟨_, _, h, _⟩ => by rw [h]; rfl
theorem ct3_len {R} : ∀ ws ka out, Ct3 R ws ka out → ws.length = 3 := fun _ _ _ ⟨_, _, _, h, _⟩ => by rw [h]; rfl
theorem ct4_len {R} : ∀ ws ka out, Ct4 R ws ka out → ws.length = 4 := fun _ _ _ ⟨_, _, _, _, h, _⟩ => by rw [h]; rfl
/-- how a call ends: it comes back with d, the cells k; it raises -/
def Rt (d : D) (k : Cells) : Oc := fun o k' => o = .ret d ∧ k' = k
def Xt (C : Addr) (fs : List (Str × D)) (k : Cells) : Oc := fun o k' => o = .exc C fs ∧ k' = k
def X0 (C : Addr) (k : Cells) : Oc := fun o k' => o = .exc0 C ∧ k' = k
def Nt (n : Nd) (k : Cells) : Oc := fun o k' => ∃ a, o = .ret (.adr a) ∧ k' = k ++ [(a, n)]
section
variable {X : Cx} {k : Nat} {f C : Addr} {ps : List Str} {E : XK} {Ct' : Ct} {x m : Str} {p pos apos : Pos} {e o : Expr} {es : List Expr} {ta te to ti : TE} {t : TA}
/-- an own error with one field -/
structure Xn (P : Program) (w : World) (K : PySem.W.Frag) (mg : Str → Option Value) (base : Heap) (C : Addr) (fld : Str) : Prop where
  xc : Xc K C
  no : findIn K (.ref C) fld = some none
  ex : ∃ fI fd x, findIn K (.ref C) "__init__" = some (some (.ref fI)) ∧ typeIn K (.ref fI) = some (.type "function") ∧ FnOk P w K mg base (L2.CX P w) 1 fI fd ["self", x] (spI1 K C fld) ∧ Binds K fd ["self", x] []
namespace Xn
variable {P : Program} {w : World} {K : PySem.W.Frag} {mg : Str → Option Value} {base : Heap} {C : Addr} {fld : Str}
noncomputable def fI (Z : Xn P w K mg base C fld) : Addr := Classical.choose Z.ex
noncomputable def fd (Z : Xn P w K mg base C fld) : FuncData := Classical.choose (Classical.choose_spec Z.ex)
noncomputable def px (Z : Xn P w K mg base C fld) : Str := Classical.choose (Classical.choose_spec (Classical.choose_spec Z.ex))
theorem all (Z : Xn P w K mg base C fld) : findIn K (.ref C) "__init__" = some (some (.ref Z.fI)) ∧ typeIn K (.ref Z.fI) = some (.type "function") ∧ FnOk P w K mg base (L2.CX P w) 1 Z.fI Z.fd ["self", Z.px] (spI1 K C fld) ∧ Binds K Z.fd ["self", Z.px] [] :=
  Classical.choose_spec (Classical.choose_spec (Classical.choose_spec Z.ex))
end Xn
end
end DL
namespace DL
open PySem L2 PySem.W
/-- a constant of the module -/
theorem pe_gv {X : Cx} {x : Str} {pos : Pos} {v : V} (hg : Gl X x) (h : ∃ u, X.mg x = some u ∧ RelV v u) (hd : (x == ("__debug__" : Str)) = false := by decide) : PE X (.Name x pos) (tC v) := let ⟨_, hm, r⟩ := h; pe_glob hg hm r hd
/-- what BlkOk asks, as one thing to be decided -/
def blkB (N : List Str) (sc scope : Scope) (own : List (Str × Nat)) : Bool :=
  decide (scope.kind = .function ∧ (∀ p ∈ own, N[p.2]? = some p.1) ∧ ∀ y ∈ scope.names, scope.names.lookup y.1 = some y.2 ∧ (y.2 = .free → sc.names.lookup y.1 = some .cell ∨ sc.names.lookup y.1 = some .free) ∧ (y.2 = .local ∨ y.2 = .cell → y.1 ∈ own.map (·.1) ∨ y.1 ∉ N))
theorem blk_ok {N : List Str} {sc scope : Scope} {own : List (Str × Nat)} (N' : List Str) (sc' : Scope) (eN : N = N') (eS : sc = sc') (h : blkB N' sc' scope own = true) : BlkOk N sc scope own :=
  let ⟨fn, at_, each⟩ := of_decide_eq_true h
  eN ▸ eS ▸ { kind := fn, uniq := fun y m => (each y m).1, ix := at_, free := fun y m => (each y m).2.1, own := fun y m => (each y m).2.2 }
end DL

/-! DM: shorter words (own work). -/
namespace DL
open PySem L2 PySem.W
section
variable {K : PySem.W.Frag} {B F F0 : Hp} {ro : Ro} {ka k1 k2 k3 kr : Cells} {ta : List (V × W)} {sg : L2.St} {H H' : Hp} {te tf tg : TE} {tr : TA} {tt tu : TT} {w x y z : W} {n m : Nd} {C dx a : Addr} {fs : List (Str × D)} {b : Bool} {P : L2.St → Hp → Prop} {De : Ends} {t u : TS} {E : XK}
theorem ea1 (h : EvD K te ro ka x k1) : EvA K (tCons te tNil) ro ka [x] k1 := ea_cons h ea_nil
theorem ea2 (h : EvD K te ro ka x k1) (h2 : EvD K tf ro k1 y k2) : EvA K (tCons te (tCons tf tNil)) ro ka [x, y] k2 := ea_cons h (ea1 h2)
theorem ea3 (h : EvD K te ro ka x k1) (h2 : EvD K tf ro k1 y k2) (h3 : EvD K tg ro k2 z k3) : EvA K (tCons te (tCons tf (tCons tg tNil))) ro ka [x, y, z] k3 := ea_cons h (ea2 h2 h3)
theorem EvA.to {ws ws' : List W} (h : EvA K tr ro ka ws k1) (e : ws = ws') : EvA K tr ro ka ws' k1 := e ▸ h
/-- the built-in type of data -/
def tyD : D → Option String
  | .non => some "NoneType" | .bl _ => some "bool" | .int _ => some "int" | .str _ => some "str" | .lst _ => some "list" | .tup _ => some "tuple"
  | _ => none
theorem tw_of {d : D} {T : String} (h : tyD d = some T) : Tw K ka (.val d) (.type T) := by
  cases d <;> cases h
  · exact .non
  · exact .bl
  · exact .int
  · exact .str
  · exact .tup .vt
  · exact .lst .vl
theorem ev_isi {T : String} {t : Value} (h : EvD K te ro ka w k1) (l : Tw K k1 w t) (e : kitOne K t (.type T) = some b) : EvD K (tCB (rIsi K) (tCons te (tCons (tC (.ty T)) tNil))) ro ka (.val (.bl b)) k1 := ev_cb (ea2 h ev_ty) (rc_isi l e)
theorem ev_len {t b : Bool} {ds : List D} (h : EvD K te ro ka w k1) (l : Lk k1 w t ds b) : EvD K (tCB (rLenU K) (tCons te tNil)) ro ka (.val (.int ds.length)) k1 := ev_cb (ea1 h) (rc_len l)
theorem ev_lenS {s : Str} (h : EvD K te ro ka (.val (.str s)) k1) (hs : s.length ≤ 100000) : EvD K (tCB (rLenU K) (tCons te tNil)) ro ka (.val (.int s.length)) k1 := ev_cb (ea1 h) (rc_lenS hs)
theorem ev_eq {d e : D} (h : EvD K te ro ka x k1) (h2 : EvD K tf ro k1 y k2) (l1 : Pk k2 x d) (l2 : Pk k2 y e) (p1 : pl 61 d = true) (p2 : pl 61 e = true) : EvD K (tOp (rEqP K false) te tf) ro ka (.val (.bl (eqD d e))) k2 := ev_op h h2 (rv_eqP l1 l2 p1 p2)
theorem ev_ne {d e : D} (h : EvD K te ro ka x k1) (h2 : EvD K tf ro k1 y k2) (l1 : Pk k2 x d) (l2 : Pk k2 y e) (p1 : pl 61 d = true) (p2 : pl 61 e = true) : EvD K (tOp (rEqP K true) te tf) ro ka (.val (.bl (!eqD d e))) k2 := ev_op h h2 (rv_neP l1 l2 p1 p2)
theorem ev_eqI {i j : Int} (h : EvD K te ro ka (.val (.int i)) k1) (h2 : EvD K tf ro k1 (.val (.int j)) k2) : EvD K (tOp (rEqP K false) te tf) ro ka (.val (.bl (i == j))) k2 := ev_eq h h2 .v .v rfl rfl
theorem ev_neI {i j : Int} (h : EvD K te ro ka (.val (.int i)) k1) (h2 : EvD K tf ro k1 (.val (.int j)) k2) : EvD K (tOp (rEqP K true) te tf) ro ka (.val (.bl (!(i == j)))) k2 := ev_ne h h2 .v .v rfl rfl
theorem ev_eqS {i j : Str} (h : EvD K te ro ka (.val (.str i)) k1) (h2 : EvD K tf ro k1 (.val (.str j)) k2) : EvD K (tOp (rEqP K false) te tf) ro ka (.val (.bl (i == j))) k2 := ev_eq h h2 .v .v rfl rfl
theorem ev_neS {i j : Str} (h : EvD K te ro ka (.val (.str i)) k1) (h2 : EvD K tf ro k1 (.val (.str j)) k2) : EvD K (tOp (rEqP K true) te tf) ro ka (.val (.bl (!(i == j)))) k2 := ev_ne h h2 .v .v rfl rfl
theorem ev_addI {i j : Int} (h : EvD K te ro ka (.val (.int i)) k1) (h2 : EvD K tf ro k1 (.val (.int j)) k2) : EvD K (tOp (rAddU K) te tf) ro ka (.val (.int (i + j))) k2 := ev_op h h2 rv_addI
theorem ev_subI {i j : Int} (h : EvD K te ro ka (.val (.int i)) k1) (h2 : EvD K tf ro k1 (.val (.int j)) k2) : EvD K (tOp rSubI te tf) ro ka (.val (.int (i - j))) k2 := ev_op h h2 rv_sub
theorem ev_mulI {i j : Int} (h : EvD K te ro ka (.val (.int i)) k1) (h2 : EvD K tf ro k1 (.val (.int j)) k2) (c : IntMulOk i j) : EvD K (tOp rMulU te tf) ro ka (.val (.int (i * j))) k2 := ev_op h h2 (rvd_l (rv_I c fun _ => rfl))
theorem ev_mulL {i j : Int} (h : EvD K te ro ka (.val (.int i)) k1) (h2 : EvD K tf ro k1 (.val (.int j)) k2) (c : Builtin.Int.intBits i ≤ 64 := by decide) : EvD K (tOp rMulU te tf) ro ka (.val (.int (i * j))) k2 := ev_mulI h h2 (.of_left c)
theorem ev_mulR {i j : Int} (h : EvD K te ro ka (.val (.int i)) k1) (h2 : EvD K tf ro k1 (.val (.int j)) k2) (c : Builtin.Int.intBits j ≤ 64 := by decide) : EvD K (tOp rMulU te tf) ro ka (.val (.int (i * j))) k2 := ev_mulI h h2 (.of_right c)
theorem ev_modI {i j : Int} (h : EvD K te ro ka (.val (.int i)) k1) (h2 : EvD K tf ro k1 (.val (.int j)) k2) (c : 0 < j) : EvD K (tOp rModI te tf) ro ka (.val (.int (i % j))) k2 := ev_op h h2 (rv_mod c)
theorem ev_divI {i j : Int} (h : EvD K te ro ka (.val (.int i)) k1) (h2 : EvD K tf ro k1 (.val (.int j)) k2) (c : CDiv i j) : EvD K (tOp rDivI te tf) ro ka (.val (.int (i / j))) k2 := ev_op h h2 (rv_div c)
theorem ev_powI {i j : Int} (h : EvD K te ro ka (.val (.int i)) k1) (h2 : EvD K tf ro k1 (.val (.int j)) k2) (c : CPow i j) : EvD K (tOp rPowI te tf) ro ka (.val (.int (i ^ j.toNat))) k2 := ev_op h h2 (rv_pow c)
theorem ev_lt {i j : Int} (h : EvD K te ro ka (.val (.int i)) k1) (h2 : EvD K tf ro k1 (.val (.int j)) k2) : EvD K (tOp rLtI te tf) ro ka (.val (.bl (decide (i < j)))) k2 := ev_op h h2 rv_lt
theorem ev_le {i j : Int} (h : EvD K te ro ka (.val (.int i)) k1) (h2 : EvD K tf ro k1 (.val (.int j)) k2) : EvD K (tOp rLeI te tf) ro ka (.val (.bl (decide (i ≤ j)))) k2 := ev_op h h2 rv_le
theorem ev_gt {i j : Int} (h : EvD K te ro ka (.val (.int i)) k1) (h2 : EvD K tf ro k1 (.val (.int j)) k2) : EvD K (tOp rGtI te tf) ro ka (.val (.bl (decide (j < i)))) k2 := ev_op h h2 rv_gt
theorem ev_ge {i j : Int} (h : EvD K te ro ka (.val (.int i)) k1) (h2 : EvD K tf ro k1 (.val (.int j)) k2) : EvD K (tOp rGeI te tf) ro ka (.val (.bl (decide (j ≤ i)))) k2 := ev_op h h2 rv_ge
theorem ev_int1 {i : Int} (h : EvD K te ro ka (.val (.int i)) k1) : EvD K (tCB rIntU (tCons te tNil)) ro ka (.val (.int i)) k1 := ev_cb (ea1 h) rc_int
theorem ev_addS {i j : Str} (h : EvD K te ro ka (.val (.str i)) k1) (h2 : EvD K tf ro k1 (.val (.str j)) k2) (hz : i.length + j.length ≤ 100000) : EvD K (tOp (rAddU K) te tf) ro ka (.val (.str (i ++ j))) k2 := ev_op h h2 (rv_addS hz)
theorem ev_ix {t b : Bool} {ds : List D} {i : Int} {d : D} (h : EvD K te ro ka w k1) (h2 : EvD K tf ro k1 (.val (.int i)) k2) (l : Lk k2 w t ds b) (hd : atI ds i = some d) : EvD K (tOp (rIx K) te tf) ro ka (part b d) k2 := ev_op h h2 (rv_ix l hd)
theorem ev_ixV {t : Bool} {ds : List D} {i : Int} {d : D} (h : EvD K te ro ka w k1) (h2 : EvD K tf ro k1 (.val (.int i)) k2) (l : Lk k2 w t ds false) (hd : atI ds i = some d) : EvD K (tOp (rIx K) te tf) ro ka (.val d) k2 := ev_ix h h2 l hd
theorem ev_ixS {s : Str} {i : Int} {c : Nat} (h : EvD K te ro ka (.val (.str s)) k1) (h2 : EvD K tf ro k1 (.val (.int i)) k2) (hs : s.length ≤ 100000) (hc : atI s.cps.toList i = some c) : EvD K (tOp (rIx K) te tf) ro ka (.val (.str ⟨#[c]⟩)) k2 := ev_op h h2 (rv_ixS hs hc)
theorem ev_inS {c : Nat} {s : Str} (h : EvD K te ro ka (.val (.str ⟨#[c]⟩)) k1) (h2 : EvD K tf ro k1 (.val (.str s)) k2) : EvD K (tOp (rInU K) te tf) ro ka (.val (.bl (decide (c ∈ s.cps.toList)))) k2 := ev_op h h2 (rvd_l rv_inS)
theorem rv_niS {c : Nat} {s : Str} : RvD K rNotInS ka (.val (.str ⟨#[c]⟩)) (.val (.str s)) (.val (.bl (!decide (c ∈ s.cps.toList)))) := fun B F0 ro ta sg H u v Q e h1 h2 q =>
  ⟨c, s, e.tm_str h1, e.tm_str h2, q _ _ (e.push_imm fun _ => rfl)⟩
theorem ev_niS {c : Nat} {s : Str} (h : EvD K te ro ka (.val (.str ⟨#[c]⟩)) k1) (h2 : EvD K tf ro k1 (.val (.str s)) k2) : EvD K (tOp (rNiU K) te tf) ro ka (.val (.bl (!decide (c ∈ s.cps.toList)))) k2 := ev_op h h2 (rvd_l rv_niS)
/-! ### calls -/
/-- a contract that works on no cells -/
theorem ev_callP {Cc : Ct} {ws : List W} {d : D} (ha : EvA K tr ro ka ws k1) (hC : Cc ws [] (Rt d [])) : EvD K (tCall (spC K Cc) [] E tr) ro ka (.val d) k1 := ev_callF (k1 := []) (k2 := []) k1 ha hC fun _ _ h => h
/-- .. on the first cell -/
theorem ev_call1 {Cc : Ct} {ws : List W} {d : D} (ha : EvA K tr ro ka ws ((a, n) :: kr)) (hC : Cc ws [(a, n)] (Rt d [(a, m)])) : EvD K (tCall (spC K Cc) [] E tr) ro ka (.val d) ((a, m) :: kr) := ev_callF (k1 := [(a, n)]) (k2 := [(a, m)]) kr ha hC fun _ _ h => h
theorem evn_callP {Cc : Ct} {ws : List W} (ha : EvA K tr ro ka ws k1) (hC : Cc ws [] (Nt m [])) : EvN K (tCall (spC K Cc) [] E tr) ro ka m k1 := evn_call (k1 := []) (k2 := []) k1 ha hC fun _ _ h => h
/-- the call's end is told by a word: any data, any cells -/
theorem sp_rel {Cc : Ct} {ws : List W} {out : Oc} {vs : List V} {Q : VK} (e : En K B F0 ro (ka ++ kr) (vs.zip ws ++ ta) sg H) (hl : vs.length = ws.length) (hC : Cc ws ka out) (ho : ∀ o k, out o k → ∃ d, o = .ret d)
    (q : ∀ d k2 v H', out (.ret d) k2 → En K B F0 ro (k2 ++ kr) ((v, .val d) :: ta) sg H' → Q v H') : spC K Cc vs H Q E := by
  obtain ⟨F, g, e⟩ := e
  refine ⟨off H ka, F, ws, ka, out, hC, hl, ⟨F, Gr.refl _ _, e.into (ro' := []) (sg' := []) (ta' := vs.zip ws) rfl (fun i w h => by simp at h) fun p hp => List.mem_append_left _ hp⟩, fun d' k v H' o ⟨F', g', e'⟩ => ?_, fun C fs k dx H' o _ => ?_, fun C k H' o _ => ?_⟩
  · obtain ⟨g2, e2⟩ := e.back g' e' (tb := (v, .val d') :: ta) fun p hp => by
      rcases List.mem_cons.mp hp with rfl | hp
      · exact .inr ⟨d', rfl, List.mem_cons_self⟩
      · exact .inl (List.mem_append_right _ hp)
    exact q d' k v H' o ⟨F', g.trans g2, e2⟩
  · obtain ⟨_, z⟩ := ho _ _ o
    cases z
  · obtain ⟨_, z⟩ := ho _ _ o
    cases z
theorem g_call {Cc : Ct} {ws : List W} {out : Oc} {i : Nat} (kr : Cells) (ha : EvA K tr ro ka ws (k1 ++ kr)) (hC : Cc ws k1 out) (ho : ∀ o k, out o k → ∃ d, o = .ret d) (k : ∀ d k2, out (.ret d) k2 → Gp K B F0 ta De.nx (ro.set i (some (.val d))) (k2 ++ kr)) :
    Gp K B F0 ta (tAsg (tCall (spC K Cc) [] E tr) (gName i) De) ro ka := fun sg H e => ha B F0 ta sg H _ e fun vs H1 hl e1 => by
  rw [List.append_nil]
  exact sp_rel e1 hl hC ho fun d k2 v H' o e2 => k d k2 o _ _ (e2.set i)
theorem q_call {Cc : Ct} {ws : List W} {out : Oc} {i : Nat} (kr : Cells) (ha : EvA K tr ro ka ws (k1 ++ kr)) (hC : Cc ws k1 out) (ho : ∀ o k, out o k → ∃ d, o = .ret d) (k : ∀ d k2, out (.ret d) k2 → Gp K B F0 ta (u De) (ro.set i (some (.val d))) (k2 ++ kr)) :
    Gp K B F0 ta (tSeq (tAsg (tCall (spC K Cc) [] E tr) (gName i)) u De) ro ka := g_call (De := { De with nx := u De }) kr ha hC ho k
/-- .. as a cell -/
theorem g_retC {out : Oc} (hr : RtOk K B F0 out De.rt) (h : EvN K te ro ka n k1) (o : ∀ a, out (.ret (.adr a)) (k1 ++ [(a, n)])) : Gp K B F0 ta (tRet te De) ro ka := fun sg H e => h B F0 ta sg H _ e fun a H1 e1 =>
  hr (.adr a) _ (.ref a) H1 (o a) ((e1.push_imm (v := .ref a) (w := .val (.adr a)) fun _ => rfl).leave)
theorem Gp.perm (h : Gp K B F0 ta P ro k1) (s : k1.Perm ka) : Gp K B F0 ta P ro ka := fun sg H e => h sg H (e.perm s)
/-- slots are forgotten -/
theorem Gp.forget {ro' : Ro} (h : Gp K B F0 ta P ro' ka) (hl : ro'.length = ro.length) (hs : ∀ (i : Nat) w, ro'[i]? = some (some w) → ro[i]? = some (some w)) : Gp K B F0 ta P ro ka := fun sg H e => h sg H (e.forget hl hs)
end
end DL

/-! DN: comprehensions that map and choose; names, numbers (own work). -/
namespace DL
open PySem L2 PySem.W
section
variable {K : PySem.W.Frag} {ro : Ro} {ka k1 : Cells} {te : TE} {tt : TT} {wi : TI} {C : Cells → Prop} {j : Nat} {vs : List Nat} {α : Type}
theorem et_yes : EvT K tYes ro ka true ka := fun B F0 ta sg H Q e q => q H e
theorem take_succ_some {xs : List α} {i : Nat} {x : α} (h : xs[i]? = some x) : xs.take (i + 1) = xs.take i ++ [x] := by
  rw [List.take_succ, h]
  rfl
theorem evn_filt {xs : List α} {g : α → W} {f : α → D} {p : α → Bool} (h : EvI K wi ro ka (xs.map g) C k1) (hj : j ∈ vs) (hn : xs.length ≤ 1000000) (hC : C k1 ∧ ∀ x, C (k1 ++ [x]))
    (ht : ∀ x ∈ xs, EvT K tt ((wipeR ro vs).set j (some (g x))) k1 (p x) k1) (hs : ∀ x ∈ xs, p x = true → EvD K te ((wipeR ro vs).set j (some (g x))) k1 (.val (f x)) k1) : EvN K (tLc wi (gName j) tt te vs) ro ka (.lst ((xs.filter p).map f)) k1 := by
  refine evn_lc h hj (by rw [List.length_map]; exact hn) (fun i acc k => acc = ((xs.take i).filter p).map f ∧ k = k1) ⟨rfl, rfl⟩ (fun i acc k ⟨_, e⟩ => by subst e; exact hC) (fun i w acc k hw ⟨e1, e2⟩ => ?_) (fun acc k ⟨e1, e2⟩ => ⟨?_, e2⟩)
  · subst e1 e2
    rw [List.getElem?_map] at hw
    cases hx : xs[i]? with
    | none => rw [hx] at hw; cases hw
    | some x =>
      rw [hx] at hw
      cases hw
      have hm : x ∈ xs := List.mem_of_getElem? hx
      cases hp : p x with
      | false =>
        refine .inl ⟨k, hp ▸ ht x hm, ?_, rfl⟩
        rw [take_succ_some hx, List.filter_append]
        simp [hp]
      | true =>
        refine .inr ⟨k, k, f x, hp ▸ ht x hm, hs x hm hp, ?_, rfl⟩
        rw [take_succ_some hx, List.filter_append]
        simp [hp]
  · rw [e1, List.length_map, List.take_length]
theorem evn_map {xs : List α} {g : α → W} {f : α → D} (h : EvI K wi ro ka (xs.map g) C k1) (hj : j ∈ vs) (hn : xs.length ≤ 1000000) (hC : C k1 ∧ ∀ x, C (k1 ++ [x]))
    (hs : ∀ x ∈ xs, EvD K te ((wipeR ro vs).set j (some (g x))) k1 (.val (f x)) k1) : EvN K (tLc wi (gName j) tYes te vs) ro ka (.lst (xs.map f)) k1 := by
  have := evn_filt (tt := tYes) (p := fun _ => true) h hj hn hC (fun _ _ => et_yes) (fun x hx _ => hs x hx)
  have e : xs.filter (fun _ => true) = xs := List.filter_eq_self.mpr fun _ _ => rfl
  rwa [e] at this
end
/-! ### texts -/
theorem str_len (s : Str) : s.length = s.cps.toList.length := by
  show s.cps.size = _
  simp
theorem str_ext {s t : Str} (h : s.cps.toList = t.cps.toList) : s = t := by
  cases s with
  | mk a =>
    cases t with
    | mk b =>
      have : a = b := by
        have h2 : a.toList = b.toList := h
        exact Array.toList_inj.mp h2
      rw [this]
theorem str_nil {s : Str} (h : s.cps.toList = []) : s = ("" : Str) := str_ext h
def letL : List Nat := ("abcdefghijklmnopqrstuvwxyz" : Str).cps.toList
def digL : List Nat := ("0123456789" : Str).cps.toList
/-- is a text a name: its signs -/
def nmL : List Nat → Bool
  | [] => false
  | c :: r => decide ((c :: r).length ≤ 8) && (decide (c ∈ letL) && (c :: r).all fun x => decide (x ∈ letL) || decide (x ∈ digL))
def isNm (s : Str) : Bool := nmL s.cps.toList
theorem isNm_len {s : Str} (h : isNm s = true) : s.length ≤ 8 := by
  unfold isNm at h
  rw [str_len]
  cases hc : s.cps.toList with
  | nil => simp
  | cons c r =>
    rw [hc] at h
    unfold nmL at h
    rw [Bool.and_eq_true] at h
    exact of_decide_eq_true h.1
/-- .. data -/
def isNmD : D → Bool
  | .str s => isNm s
  | _ => false
/-- data that a name's test may be asked of -/
def nmOk : D → Prop
  | .str s => s.length ≤ 1000
  | d => tyD d ≠ none
/-- is it a whole number -/
def isWh : D → Bool
  | .int _ => true
  | _ => false
theorem at0 {β : Type} {c : β} {r : List β} : atI (c :: r) 0 = some c := atI_nat (j := 0) rfl
theorem atZ {β : Type} {xs : List β} {i : Int} {x : β} (h0 : 0 ≤ i) (h : xs[i.toNat]? = some x) : atI xs i = some x := by
  have := atI_nat h
  rwa [Int.toNat_of_nonneg h0] at this
/-! ### cuts -/
theorem six_nat {n : Nat} {i : Int} (h0 : 0 ≤ i) (h1 : i ≤ n) (d : Nat) : HT.sIx n d (some i) = i.toNat := by
  unfold HT.sIx
  simp only
  first
    | omega
    | (split <;> omega)
    | (repeat' split) <;> omega
theorem six_none {n d : Nat} : HT.sIx n d none = d := rfl
theorem cut_from {β : Type} {xs : List β} {i : Int} (h0 : 0 ≤ i) (h1 : i ≤ xs.length) : cutD xs (some i) none = xs.drop i.toNat := by
  unfold cutD
  rw [six_nat h0 h1, six_none]
  exact List.take_of_length_le (by rw [List.length_drop]; exact Nat.le_refl _)
theorem cut_to {β : Type} {xs : List β} {i : Int} (h0 : 0 ≤ i) (h1 : i ≤ xs.length) : cutD xs none (some i) = xs.take i.toNat := by
  unfold cutD
  rw [six_nat h0 h1, six_none, List.drop_zero, Nat.sub_zero]
theorem cut_len {β : Type} (xs : List β) (lo hi : Option Int) : (cutD xs lo hi).length ≤ xs.length := by
  unfold cutD
  rw [List.length_take, List.length_drop]
  omega
def stD (ss : List Str) : List D := ss.map .str
theorem stD_len (ss : List Str) : (stD ss).length = ss.length := List.length_map ..
theorem lk1 {β : Type} {f : Str} {v : β} : List.lookup f [(f, v)] = some v := by simp [List.lookup]
section
variable {K : PySem.W.Frag} {ka kr : Cells} {w : W} {t b : Bool} {ds : List D}
theorem Lk.stay (l : Lk ka w t ds b) : Stay w ds ka := by
  cases l with
  | vl => trivial
  | vt => trivial
  | wl => trivial
  | wt => trivial
  | ce j h => exact List.mem_of_getElem? h
theorem Lk.app (l : Lk ka w t ds b) : Lk (ka ++ kr) w t ds b := l.mono _ (by
  have := l.stay
  unfold Stay at this ⊢
  split
  · rename_i a
    exact List.mem_append_left _ this
  · trivial)
end
theorem find_first {β : Type} {p : β → Bool} {ds : List β} {i : Nat} {d : β} (h : ∀ e ∈ ds.take i, p e = false) (hi : ds[i]? = some d) (hp : p d = true) : ds.find? p = some d := by
  have e : ds = ds.take i ++ d :: ds.drop (i + 1) := by
    have hl := (List.getElem?_eq_some_iff.mp hi).1
    have h2 : ds[i] = d := (List.getElem?_eq_some_iff.mp hi).2
    rw [← h2, List.getElem_cons_drop, List.take_append_drop]
  rw [e, List.find?_append, List.find?_eq_none.mpr (fun x hx => by rw [h x hx]; exact Bool.false_ne_true)]
  simp [hp]
theorem find_none {β : Type} {p : β → Bool} {ds : List β} (h : ∀ e ∈ ds, p e = false) : ds.find? p = none := List.find?_eq_none.mpr fun x hx => by rw [h x hx]; exact Bool.false_ne_true
end DL
namespace DL
open PySem L2 PySem.W
section
variable {K : PySem.W.Frag} {B F0 : Hp} {ro : Ro} {ka k1 k2 : Cells} {ta : List (V × W)} {tt : TT} {De : Ends} {t u : TS}
/-- an if whose ends meet again under a word -/
theorem q_whenI {b : Bool} (Inv : Ro → Cells → Prop) (h : EvT K tt ro ka b k1) (h1 : b = true → ∀ nx, (∀ ro2 ka2, Inv ro2 ka2 → Gp K B F0 ta nx ro2 ka2) → Gp K B F0 ta (t { De with nx := nx }) ro k1) (h2 : b = false → Inv ro k1) (k : ∀ ro2 ka2, Inv ro2 ka2 → Gp K B F0 ta (u De) ro2 ka2) : Gp K B F0 ta (tSeq (tIfS tt t tNext) u De) ro ka :=
  q_when h (fun hb => h1 hb _ k) fun hb => k _ _ (h2 hb)
end
/-! ### the pool of the laws -/
structure Pl where
  a : Int
  b : Int
  c : Int
def Pl.ds (p : Pl) : List D := [.int p.a, .int p.b, .int p.c]
structure Pl.Ok (p : Pl) (n : Int) : Prop where
  a0 : 0 ≤ p.a
  b0 : 0 ≤ p.b
  b1 : p.b < 1000000007
  c0 : 0 ≤ p.c
  c1 : p.c ≤ n
theorem Pl.Ok.up {p : Pl} {m n : Int} (h : p.Ok m) (l : m ≤ n) : p.Ok n := ⟨h.a0, h.b0, h.b1, h.c0, Int.le_trans h.c1 l⟩
def fldZ (z : Int) : Int := if z < 0 then 0 - 2 * z - 1 else 2 * z
def plOf (z : Int) : Pl := if fldZ z ≥ 10 ^ 18 then ⟨fldZ z, fldZ z % 1000000007, 0⟩ else ⟨0, fldZ z % 1000000007, 0⟩
theorem fldZ_nn (z : Int) : 0 ≤ fldZ z := by
  unfold fldZ
  split <;> omega
theorem plOf_ok (z : Int) : (plOf z).Ok 0 := by
  have h := fldZ_nn z
  have h0 : 0 ≤ fldZ z % 1000000007 := Int.emod_nonneg _ (by decide)
  have h1 : fldZ z % 1000000007 < 1000000007 := Int.emod_lt_of_pos _ (by decide)
  unfold plOf
  split
  · exact ⟨h, h0, h1, Int.le_refl _, Int.le_refl _⟩
  · exact ⟨Int.le_refl _, h0, h1, Int.le_refl _, Int.le_refl _⟩
/-- one draw below m -/
def tk (p : Pl) (m : Int) : Int × Pl :=
  if 0 < p.a then (p.a % m, ⟨p.a / m, p.b, p.c⟩)
  else (((p.b + 7919 * (p.c + 1) + 104729) ^ (5 : Int).toNat % 2147483647 + (p.c + 1)) * 40692 % 2147483629 % m, ⟨p.a, p.b, p.c + 1⟩)
theorem tk_lt (p : Pl) {m : Int} (h : 0 < m) : 0 ≤ (tk p m).1 ∧ (tk p m).1 < m := by
  unfold tk
  split
  · exact ⟨Int.emod_nonneg _ (by omega), Int.emod_lt_of_pos _ h⟩
  · exact ⟨Int.emod_nonneg _ (by omega), Int.emod_lt_of_pos _ h⟩
theorem tk_ok {p : Pl} {n m : Int} (h : p.Ok n) (hm : 0 < m) : (tk p m).2.Ok (n + 1) := by
  obtain ⟨h1, h2, h3, h4, h5⟩ := h
  unfold tk
  split
  · exact ⟨Int.ediv_nonneg h1 (by omega), h2, h3, h4, by show p.c ≤ n + 1; omega⟩
  · exact ⟨h1, h2, h3, by show 0 ≤ p.c + 1; omega, by show p.c + 1 ≤ n + 1; omega⟩
end DL

/-! DP: texts by their signs (own work). -/
namespace DL
open PySem L2 PySem.W
/-- the text of these signs -/
def tx (l : List Nat) : Str := ⟨l.toArray⟩
section
variable {K : PySem.W.Frag} {ro : Ro} {ka k1 k2 k3 : Cells} {te tf : TE} {tl th : TO}
end
end DL

/-! DR: expressions that raise, by data (own work). -/
namespace DL
open PySem L2 PySem.W
/-- te ends with an exception of C1, with the fields gs -/
def EvX (K : PySem.W.Frag) (te : TE) (ro : Ro) (ka : Cells) (E : XK) (C1 : Addr) (gs : List (Str × D)) (k2 : Cells) : Prop := ∀ B F0 ta sg H (Q : VK), En K B F0 ro ka ta sg H → (∀ dx H', En K B F0 ro (k2 ++ [(dx, .xd gs)]) ta sg H' → E (.ref C1) (some dx) H') → te sg H Q
section
variable {K : PySem.W.Frag} {B F0 : Hp} {ro : Ro} {ka k1 k2 k3 kr : Cells} {ta : List (V × W)} {sg : L2.St} {H : Hp} {te tf : TE} {tr : TA} {x y : W} {C C1 : Addr} {fs gs : List (Str × D)} {b : Bool} {E : XK} {De : Ends}
theorem evx_call {Cc : Ct} {ws : List W} {E' : XK} (ha : EvA K tr ro ka ws (k2 ++ kr)) (hC : Cc ws k2 (Xt C1 gs k3)) (hE : E' = E) : EvX K (tCall (spC K Cc) [] E' tr) ro ka E C1 gs (k3 ++ kr) := fun B F0 ta sg H Q e q => by
  subst hE
  refine ha B F0 ta sg H _ e fun vs H1 hl e1 => ?_
  rw [List.append_nil]
  refine sp_exc e1 hl hC (fun _ _ z => z) fun dx H' e3 => q dx H' (e3.perm ?_)
  rw [List.append_assoc, List.append_assoc]
  exact List.Perm.append_left _ List.perm_append_comm
end
end DL
namespace DL
open PySem L2 PySem.W
theorem cut_to' {β : Type} {xs : List β} {i : Int} (h0 : 0 ≤ i) : cutD xs none (some i) = xs.take i.toNat := by
  by_cases h1 : i ≤ xs.length
  · exact cut_to h0 h1
  · unfold cutD HT.sIx
    dsimp only
    rw [if_neg (by omega), List.drop_zero, Nat.sub_zero, Nat.min_eq_right (by omega), List.take_of_length_le (Nat.le_refl _), List.take_of_length_le (by omega)]
theorem stD_app (xs ys : List Str) : stD xs ++ stD ys = stD (xs ++ ys) := by unfold stD; rw [List.map_append]
theorem stD_get {ss : List Str} {i : Nat} {s : Str} (h : ss[i]? = some s) : (stD ss)[i]? = some (.str s) := by unfold stD; rw [List.getElem?_map, h]; rfl
end DL
namespace DL
open PySem L2 PySem.W
/-- the end of a loop within a loop -/
theorem g_jpH {K : PySem.W.Frag} {B F0 : Hp} {ta ta' : List (V × W)} {Inv : Ro → Cells → Prop} {ro : Ro} {ka : Cells} (h : ∀ p ∈ ta, p ∈ ta') (i : Inv ro ka) : Gp K B F0 ta' (Jp K B F0 ta Inv) ro ka := fun sg H e => ⟨ro, ka, i, e.held h⟩
end DL
namespace DL
open PySem L2 PySem.W
def inD (ns : List Int) : List D := ns.map .int
/-- w is the script -/
def Scr (K : PySem.W.Frag) (w : W) (ns : List Int) : Prop := w = .val (.lst (inD ns)) ∨ ∃ p, w = .val (.adr p) ∧ ∀ H, SqL K H p (ns.map V.int)
theorem law_sp {K : PySem.W.Frag} {Cc : Ct} {H : Hp} {a : Addr} {ns : List Int} (hC : ∀ z, Scr K z ns → Cc [z] [] (Rt (.bl true) [])) (hS : SqL K H a (ns.map V.int)) : spC K Cc [.ref a] H (fun v _ => v = .bl true) fun _ _ _ => False := by
  have rt : ∀ {B F0 : Hp}, RtOk K B F0 (Rt (.bl true) []) (fun v _ => v = .bl true) := fun {B F0} d ka v H' o e => by
    obtain ⟨h, _⟩ := o
    cases h
    exact e.tm_bl List.mem_cons_self
  have rx : ∀ {B F0 : Hp}, RxOk K B F0 (Rt (.bl true) []) (fun _ _ _ => False) := fun {B F0} => ⟨fun C fs ka dx H' o _ => (by cases o.1), fun C ka H' o _ => (by cases o.1)⟩
  have nob : Sub (fun _ => none) H := fun _ _ h => by cases h
  rcases id hS with h | h
  · refine ⟨fun _ => none, gH H, [.val (.lst (inD ns))], [], _, hC _ (.inl rfl), rfl, ⟨gH H, Gr.refl _ _, gH_nz, gH_exz, nob, List.nodup_nil, fun p hp => (by cases hp), rfl, fun i w e => by simp at e, fun p hp => ?_⟩, rt, rx⟩
    have hp2 : p = (V.ref a, W.val (.lst (inD ns))) := by simpa using hp
    subst hp2
    refine ⟨a, ns.map V.int, rfl, .inl ?_, rpl_ints ns⟩
    unfold gH
    rcases h with h | ⟨o, h⟩
    · rw [h]
    · rw [h]
      rfl
  · refine ⟨fun _ => none, fun _ => none, [.val (.adr a)], [], _, hC _ (.inr ⟨a, rfl, fun _ => .inr h⟩), rfl, ⟨fun _ => none, Gr.refl _ _, fun _ _ h => (by cases h), fun _ _ h => (by cases h), nob, List.nodup_nil, fun p hp => (by cases hp), rfl, fun i w e => by simp at e, fun p hp => ?_⟩, rt, rx⟩
    have hp2 : p = (V.ref a, W.val (.adr a)) := by simpa using hp
    subst hp2
    rfl
/-- what the head must tell of a law's def: its contract, kept by every list of numbers -/
def LawIn (l : PySem.W.OpenLaw) (k : Nat) (x : Str) (w : World) (mg : Str → Option Value) (f : Addr) (h : Heap) : Prop :=
  ∃ (K : PySem.W.Frag) (Cc : Ct) (fd : FuncData), K.In h ∧ (∀ z ns, Scr K z ns → Cc [z] [] (Rt (.bl true) [])) ∧ (∀ (s : Shared) (u : Value), BindsTo s fd ⟨[u], []⟩ [(x, u)]) ∧ ∀ base : Heap, FnOk l.prog w K mg base (L2.CX l.prog w) k f fd [x] (spC K Cc)
abbrev LawWalk (l : PySem.W.OpenLaw) (q : Program) (loose : List Str) (XP : (Str → Option Value) → Heap → Prop) (YP : World → Heap → Prop) (d : DefRec) : Prop := PySem.W.WalkO q loose XP YP l.row.toRowW d [] (fun g us => PySem.call g us)
/-- the law's walk, from what the head tells -/
theorem walk_D {l : PySem.W.OpenLaw} {n k : Nat} {q : Program} {loose : List Str} {XP : (Str → Option Value) → Heap → Prop} {YP : World → Heap → Prop} {d : DefRec} {x : Str} (most : l.most = some n) (fits : n ≤ sizeLine)
    (plain : d.params.defaults = []) (room : Room k callerA) (told : ∀ w mg f h, YP w h → h.Ns mainGlobals mg → mg d.name = some (.ref f) → LawIn l k x w mg f h) : LawWalk l q loose XP YP d :=
  Att.attach_call most plain fun w _ _ mg _ f _ _ _ _ arg vs ns G known _ _ _ at_ obj nums short grown => by
    have ⟨K, Cc, fd, inH, keeps, binds, ok⟩ := told w mg f _ known G.T.g at_
    exact law_call inH G.T.g G.T.b G.T.builtins G.T.nolimit grown obj nums (Nat.le_trans short fits) room (fun base _ _ => ok base) binds (fun H _ S => law_sp (fun z hz => keeps z ns hz) S) fun H e s' z => by
      obtain ⟨_, _, _, _, _, _, _, _, _, _, _, _, bad⟩ := z
      exact bad
end DL

/-! DU: tuple * number (own work). -/
namespace DL
open PySem PySem.Spec PyProof.Rows L2
section
open PySem.W
variable {K : PySem.W.Frag} {ro : Ro} {ka k1 k2 : Cells} {te tf : TE}
end
end DL

/-! DV: dicts, sorted texts, data compared by < (own work). -/
namespace DL
open PySem L2 PySem.W

/-! ### tables -/
section
variable {κ α β : Type} [DecidableEq κ]
def getT (kvs : List (κ × α)) (k : κ) : Option α := (kvs.find? fun kv => decide (kv.1 = k)).map (·.2)
def hasT (kvs : List (κ × α)) (k : κ) : Bool := kvs.any fun p => decide (p.1 = k)
def newAt (k : κ) (v : α) (p : κ × α) : κ × α := if p.1 = k then (p.1, v) else p
/-- a key that stands keeps its place, a new one comes last -/
def putT (kvs : List (κ × α)) (k : κ) (v : α) : List (κ × α) := if hasT kvs k = true then kvs.map (newAt k v) else kvs ++ [(k, v)]
def dropT (kvs : List (κ × α)) (k : κ) : List (κ × α) := kvs.filter fun kv => decide (kv.1 ≠ k)
/-- tables of the same keys -/
def PT (R : α → β → Prop) : List (κ × α) → List (κ × β) → Prop
  | [], xs => xs = []
  | (k, d) :: ds, xs => ∃ x ys, xs = (k, x) :: ys ∧ R d x ∧ PT R ds ys
variable {R : α → β → Prop}
theorem PT.any : ∀ {ds : List (κ × α)} {xs : List (κ × β)}, PT R ds xs → ∀ k, hasT xs k = hasT ds k
  | [], xs, h, k => by rw [show xs = [] from h]; rfl
  | (k', d) :: ds, xs, h, k => by
    obtain ⟨x, ys, rfl, _, h2⟩ := h
    unfold hasT
    rw [List.any_cons, List.any_cons]
    exact congrArg (fun z => decide (k' = k) || z) (PT.any h2 k)
theorem PT.map (k : κ) {d : α} {x : β} (r : R d x) : ∀ {ds : List (κ × α)} {xs : List (κ × β)}, PT R ds xs → PT R (ds.map (newAt k d)) (xs.map (newAt k x))
  | [], xs, h => by rw [show xs = [] from h]; rfl
  | (k', d') :: ds, xs, h => by
    obtain ⟨x', ys, rfl, h1, h2⟩ := h
    have rest := PT.map k r h2
    by_cases e : k' = k
    · have e1 : newAt k d (k', d') = (k', d) := if_pos e
      have e2 : newAt k x (k', x') = (k', x) := if_pos e
      rw [List.map_cons, e1, List.map_cons, e2]
      exact ⟨x, _, rfl, r, rest⟩
    · have e1 : newAt k d (k', d') = (k', d') := if_neg e
      have e2 : newAt k x (k', x') = (k', x') := if_neg e
      rw [List.map_cons, e1, List.map_cons, e2]
      exact ⟨x', _, rfl, h1, rest⟩
theorem PT.snoc {k : κ} {d : α} {x : β} (r : R d x) : ∀ {ds : List (κ × α)} {xs : List (κ × β)}, PT R ds xs → PT R (ds ++ [(k, d)]) (xs ++ [(k, x)])
  | [], xs, h => by rw [show xs = [] from h]; exact ⟨x, [], rfl, r, rfl⟩
  | (k', d') :: ds, xs, h => by
    obtain ⟨x', ys, rfl, h1, h2⟩ := h
    exact ⟨x', _, rfl, h1, PT.snoc r h2⟩
theorem PT.put {ds : List (κ × α)} {xs : List (κ × β)} (h : PT R ds xs) (k : κ) {d : α} {x : β} (r : R d x) : PT R (putT ds k d) (putT xs k x) := by
  unfold putT
  rw [h.any k]
  split
  · exact h.map k r
  · exact h.snoc r
theorem PT.drop (k : κ) : ∀ {ds : List (κ × α)} {xs : List (κ × β)}, PT R ds xs → PT R (dropT ds k) (dropT xs k)
  | [], xs, h => by rw [show xs = [] from h]; rfl
  | (k', d') :: ds, xs, h => by
    obtain ⟨x', ys, rfl, h1, h2⟩ := h
    unfold dropT
    rw [List.filter_cons, List.filter_cons]
    by_cases e : k' = k
    · rw [if_neg (by simpa using e), if_neg (by simpa using e)]; exact PT.drop k h2
    · rw [if_pos (by simpa using e), if_pos (by simpa using e)]; exact ⟨x', _, rfl, h1, PT.drop k h2⟩
theorem PT.get (k : κ) : ∀ {ds : List (κ × α)} {xs : List (κ × β)}, PT R ds xs → (getT ds k = none → getT xs k = none) ∧ ∀ d, getT ds k = some d → ∃ x, getT xs k = some x ∧ R d x
  | [], xs, h => by rw [show xs = [] from h]; exact ⟨fun _ => rfl, fun d q => by cases q⟩
  | (k', d') :: ds, xs, h => by
    obtain ⟨x', ys, rfl, h1, h2⟩ := h
    by_cases e : k' = k
    · have e1 : getT ((k', d') :: ds) k = some d' := by simp [getT, List.find?_cons, e]
      have e2 : getT ((k', x') :: ys) k = some x' := by simp [getT, List.find?_cons, e]
      rw [e1, e2]
      refine ⟨fun q => (by cases q), fun d q => ?_⟩
      cases q
      exact ⟨x', rfl, h1⟩
    · have e1 : getT ((k', d') :: ds) k = getT ds k := by simp [getT, List.find?_cons, e]
      have e2 : getT ((k', x') :: ys) k = getT ys k := by simp [getT, List.find?_cons, e]
      rw [e1, e2]
      exact PT.get k h2
theorem PT.len : ∀ {ds : List (κ × α)} {xs : List (κ × β)}, PT R ds xs → xs.length = ds.length
  | [], xs, h => by rw [show xs = [] from h]; rfl
  | (k', d') :: ds, xs, h => by
    obtain ⟨x', ys, rfl, h1, h2⟩ := h
    rw [List.length_cons, List.length_cons, PT.len h2]
theorem PT.at : ∀ {ds : List (κ × α)} {xs : List (κ × β)}, PT R ds xs → ∀ {i : Nat} {p : κ × α}, ds[i]? = some p → ∃ x, xs[i]? = some (p.1, x) ∧ R p.2 x
  | [], xs, h, i, p, e => by simp at e
  | (k', d') :: ds, xs, h, 0, p, e => by
    obtain ⟨x', ys, rfl, h1, h2⟩ := h
    cases e
    exact ⟨x', rfl, h1⟩
  | (k', d') :: ds, xs, h, i + 1, p, e => by
    obtain ⟨x', ys, rfl, h1, h2⟩ := h
    exact PT.at h2 (i := i) (by simpa using e)
theorem putT_len (kvs : List (κ × α)) (k : κ) (v : α) : (putT kvs k v).length ≤ kvs.length + 1 := by
  unfold putT
  split
  · rw [List.length_map]; omega
  · rw [List.length_append, List.length_cons, List.length_nil]; omega
end
theorem rpk_pt {K : PySem.W.Frag} {F : Hp} : ∀ {ds : List (Key × D)} {xs : List (Key × V)}, RpK K F ds xs ↔ PT (Rp K F) ds xs
  | [], xs => Iff.rfl
  | (k, d) :: ds, xs => ⟨fun ⟨x, ys, e, h1, h2⟩ => ⟨x, ys, e, h1, rpk_pt.mp h2⟩, fun ⟨x, ys, e, h1, h2⟩ => ⟨x, ys, e, h1, rpk_pt.mpr h2⟩⟩
/-- a key as data -/
def kD : Key → D
  | .inl i => .int i
  | .inr s => .str s

section
variable {K : PySem.W.Frag} {B F F0 : Hp} {ro : Ro} {ka k1 k2 k3 kr : Cells} {ta : List (V × W)} {sg : L2.St} {H H' : Hp} {te tf tg tk tv : TE} {tr : TA} {tt tu : TT} {w x y z : W} {n m : Nd} {C dx a : Addr} {b : Bool} {P : L2.St → Hp → Prop} {De : Ends} {t u : TS} {E : XK}
theorem En.tm_key (e : En K B F0 ro ka ta sg H) {v : V} {k : Key} (h : (v, W.val (kD k)) ∈ ta) : v = kV k := by
  cases k with
  | inl i => exact e.tm_int h
  | inr s => exact e.tm_str h
/-! ### a dict that is the def's own, locked while it is walked -/
theorem En.cellAt (e : En K B F0 ro ka ta sg H) {j : Nat} (hj : ka[j]? = some (a, n)) : ∃ F, Gr B F0 F ∧ EnF K B F ro ka ta sg H ∧ NdOk K F H a n := let ⟨F, g, q⟩ := e; ⟨F, g, q, (q.ce _ (List.mem_of_getElem? hj)).2.2⟩
theorem set_back {β : Type} {l : List β} {j : Nat} {x y : β} (h : l[j]? = some x) : (l.set j y).set j x = l := by
  rw [List.set_set]
  refine List.ext_getElem? fun i => ?_
  by_cases e : j = i
  · subst e
    rw [List.getElem?_set_self (List.getElem?_eq_some_iff.mp h).1, h]
  · rw [List.getElem?_set_ne e]
theorem get_set {β : Type} {l : List β} {j : Nat} {x y : β} (h : l[j]? = some x) : (l.set j y)[j]? = some y := List.getElem?_set_self (List.getElem?_eq_some_iff.mp h).1
theorem evn_lock {j : Nat} {ds : List (Key × D)} (hj : ka[j]? = some (a, .dic ds)) (hj1 : k1[j]? = some (a, .dic ds)) (h : ∀ o xs, EvN K te ro (ka.set j (a, .ldic o xs ds)) n (k1.set j (a, .ldic o xs ds))) : EvN K (tLockE te) ro ka n k1 := fun B F0 ta sg H Q e q => by
  obtain ⟨F, g, ef, xs, hx, rx⟩ := e.cellAt hj
  refine ⟨a, .dK xs, hx, trivial, fun od => ?_⟩
  refine h od xs B F0 ta sg _ _ ⟨F, g, ef.write hj ⟨upd_same, rx⟩⟩ fun v H1 e1 => ?_
  have hl : j < (k1.set j (a, Nd.ldic od xs ds)).length := by rw [List.length_set]; exact (List.getElem?_eq_some_iff.mp hj1).1
  have hg : (k1.set j (a, Nd.ldic od xs ds) ++ [(v, n)])[j]? = some (a, Nd.ldic od xs ds) := by rw [List.getElem?_append_left hl]; exact get_set hj1
  obtain ⟨F1, g1, ef1, hx1, rx1⟩ := e1.cellAt hg
  refine ⟨hx1, q _ _ ⟨F1, g1, ?_⟩⟩
  have := ef1.write (o := .dK xs) (n' := .dic ds) hg ⟨xs, upd_same, rx1⟩
  rwa [List.set_append_left _ _ hl, set_back hj1] at this
/-- the keys of a locked dict -/
theorem ei_keys {o : Obj} {xs : List (Key × V)} {ds : List (Key × D)} (h : EvD K te ro ka (.val (.adr a)) k1) (hm : (a, Nd.ldic o xs ds) ∈ k1) : EvI K (iKeys te) ro ka (ds.map fun kv => W.val (kD kv.1)) (fun k => (a, Nd.ldic o xs ds) ∈ k) k1 := fun B F0 ta sg H R e q =>
  h B F0 ta sg H _ e fun v H1 e1 => by
    have hv := e1.tm_adr (v := v) (a := a) List.mem_cons_self
    subst hv
    obtain ⟨F, g, ef⟩ := id e1
    obtain ⟨hx, rx⟩ := (ef.ce _ hm).2.2
    refine ⟨a, o, rfl, .inl ⟨xs, hx, q _ ta H1 (fun p hp => hp) e1.pop (fun i w2 ro2 ka2 ta2 sg2 H2 hw hs _ e2 => ?_) fun i ro2 ka2 ta2 sg2 H2 hi hs _ e2 => ?_⟩⟩
    · obtain ⟨F2, g2, ef2⟩ := id e2
      obtain ⟨hx2, rx2⟩ := (ef2.ce _ hs).2.2
      rw [List.getElem?_map] at hw
      cases hd : ds[i]? with
      | none => rw [hd] at hw; cases hw
      | some p =>
        rw [hd] at hw
        cases hw
        obtain ⟨y, hy, _⟩ := (rpk_pt.mp rx2).at hd
        refine ⟨⟨hx2, (List.getElem?_eq_some_iff.mp hy).1⟩, fun x H3 ⟨e3, k, v, hk, ek⟩ => ?_⟩
        subst e3 ek
        rw [hy] at hk
        cases hk
        obtain ⟨pk, pd⟩ := p
        exact e2.push_imm fun F => by cases pk <;> rfl
    · obtain ⟨F2, g2, ef2⟩ := id e2
      obtain ⟨hx2, rx2⟩ := (ef2.ce _ hs).2.2
      refine ⟨hx2, ?_⟩
      rw [(rpk_pt.mp rx2).len]
      rwa [List.length_map] at hi

/-! ### sorted texts -/
theorem lt_cps : ∀ a b : List Nat, Spec.ltCps a b = decide (a < b)
  | [], [] => rfl
  | [], _ :: _ => rfl
  | _ :: _, [] => rfl
  | x :: r, y :: t => by
    show (decide (x < y) || (x == y && Spec.ltCps r t)) = _
    rw [lt_cps r t, Bool.eq_iff_iff]
    simp [List.cons_lt_cons_iff]
/-- the order of texts -/
def ltS (a b : Str) : Bool := decide (a.cps.toList < b.cps.toList)
theorem ltS_irr (a : Str) : ltS a a = false := decide_eq_false (List.lt_irrefl _)
theorem ltS_trans {a b c : Str} (h : ltS a b = true) (h2 : ltS b c = true) : ltS a c = true := decide_eq_true (List.lt_trans (of_decide_eq_true h) (of_decide_eq_true h2))
theorem ltS_tri {a b : Str} (h : ltS a b = false) (h2 : ltS b a = false) : a = b := str_ext (List.le_antisymm (List.not_lt.mp (of_decide_eq_false h2)) (List.not_lt.mp (of_decide_eq_false h)))
theorem ltS_asym {a b : Str} (h : ltS a b = true) : ltS b a = false := by
  cases q : ltS b a with
  | false => rfl
  | true => have := ltS_trans h q; rw [ltS_irr] at this; cases this
/-- ascending: none is less than one ahead of it -/
def AscS (xs : List Str) : Prop := xs.Pairwise fun a b => ltS b a = false
theorem asc_rising : ∀ (xs : List Str) (p : Str), PyProof.Rows.risingS p xs = true → AscS (p :: xs)
  | [], p, _ => List.pairwise_singleton ..
  | x :: r, p, h => by
    have h' : (!Spec.ltCps x.cps.toList p.cps.toList && PyProof.Rows.risingS x r) = true := h
    rw [Bool.and_eq_true, lt_cps] at h'
    have ih := asc_rising r x h'.2
    have hx : ltS x p = false := by
      have := h'.1
      unfold ltS
      cases q : decide (x.cps.toList < p.cps.toList) with
      | false => rfl
      | true => rw [q] at this; cases this
    refine List.pairwise_cons.mpr ⟨fun b hb => ?_, ih⟩
    rcases List.mem_cons.mp hb with rfl | hb
    · exact hx
    · have h2 := (List.pairwise_cons.mp ih).1 b hb
      cases q : ltS b p with
      | false => rfl
      | true =>
        cases q2 : ltS p x with
        | true => have := ltS_trans q q2; rw [h2] at this; cases this
        | false => rw [ltS_tri q2 hx] at q; rw [h2] at q; cases q
theorem asc_sorted {xs : List Str} (h : PyProof.Rows.sortedS xs = true) : AscS xs := by
  cases xs with
  | nil => exact List.Pairwise.nil
  | cons x r => exact asc_rising r x h
theorem asc_unique : ∀ {xs ys : List Str}, xs.Perm ys → AscS xs → AscS ys → xs = ys
  | [], ys, p, _, _ => (List.nil_perm.mp p).symm
  | x :: xs, [], p, _, _ => by have := p.length_eq; cases this
  | x :: xs, y :: ys, p, h1, h2 => by
    have e : x = y := by
      have hx : x ∈ y :: ys := p.subset List.mem_cons_self
      have hy : y ∈ x :: xs := p.symm.subset List.mem_cons_self
      rcases List.mem_cons.mp hx with rfl | hx
      · rfl
      rcases List.mem_cons.mp hy with rfl | hy
      · rfl
      exact ltS_tri ((List.pairwise_cons.mp h2).1 x hx) ((List.pairwise_cons.mp h1).1 y hy)
    subst e
    rw [asc_unique ((List.perm_cons x).mp p) (List.pairwise_cons.mp h1).2 (List.pairwise_cons.mp h2).2]
def insS (x : Str) : List Str → List Str
  | [] => [x]
  | y :: r => if ltS y x then y :: insS x r else x :: y :: r
def srt : List Str → List Str
  | [] => []
  | x :: r => insS x (srt r)
theorem insS_perm (x : Str) : ∀ r : List Str, (insS x r).Perm (x :: r)
  | [] => List.Perm.refl _
  | y :: r => by
    unfold insS
    split
    · exact ((insS_perm x r).cons y).trans (List.Perm.swap x y r)
    · exact List.Perm.refl _
theorem srt_perm : ∀ r : List Str, (srt r).Perm r
  | [] => List.Perm.refl _
  | x :: r => (insS_perm x _).trans ((srt_perm r).cons x)
theorem insS_asc {x : Str} : ∀ {r : List Str}, AscS r → AscS (insS x r)
  | [], _ => List.pairwise_singleton ..
  | y :: r, h => by
    unfold insS
    split
    · rename_i q
      refine List.pairwise_cons.mpr ⟨fun b hb => ?_, insS_asc (List.pairwise_cons.mp h).2⟩
      rcases List.mem_cons.mp ((insS_perm x r).subset hb) with rfl | hb
      · exact ltS_asym q
      · exact (List.pairwise_cons.mp h).1 b hb
    · rename_i q
      have q : ltS y x = false := by simpa using q
      refine List.pairwise_cons.mpr ⟨fun b hb => ?_, h⟩
      rcases List.mem_cons.mp hb with rfl | hb
      · exact q
      · have h2 := (List.pairwise_cons.mp h).1 b hb
        cases q3 : ltS b x with
        | false => rfl
        | true =>
          cases q2 : ltS x y with
          | true => have := ltS_trans q3 q2; rw [h2] at this; cases this
          | false => rw [ltS_tri q2 q] at q3; rw [h2] at q3; cases q3
theorem srt_asc : ∀ r : List Str, AscS (srt r)
  | [] => List.Pairwise.nil
  | x :: r => insS_asc (srt_asc r)
theorem srt_len (r : List Str) : (srt r).length = r.length := (srt_perm r).length_eq
theorem srt_eq {xs ys : List Str} (h : xs.Perm ys) : srt xs = srt ys := asc_unique ((srt_perm xs).trans (h.trans (srt_perm ys).symm)) (srt_asc _) (srt_asc _)
theorem mem_srt {s : Str} {xs : List Str} : s ∈ srt xs ↔ s ∈ xs := (srt_perm xs).mem_iff
theorem rpl_strs {F : Hp} : ∀ {ss : List Str} {vs : List V}, RpL K F (stD ss) vs → vs = ss.map V.str
  | [], vs, h => h
  | s :: ss, vs, h => by
    obtain ⟨x, ys, rfl, h1, h2⟩ := h
    rw [rpl_strs h2, show x = V.str s from h1]
    rfl
theorem rpl_mk {F : Hp} : ∀ (ss : List Str), RpL K F (stD ss) (ss.map V.str)
  | [] => rfl
  | s :: ss => ⟨.str s, _, rfl, rfl, rpl_mk ss⟩
/-- sorted(texts): lists -/
theorem rcn_srt {b : Bool} {ss : List Str} (l : Lk ka w false (stD ss) b) (hz : ss.length < 64) : RcN K (rSortedS K) ka [w] (.lst (stD (srt ss))) := fun B F0 ro ta sg H us Q e hl hm q => by
  obtain ⟨u, rfl, hu⟩ := zip_one hl hm
  obtain ⟨F, g, ef⟩ := id e
  obtain ⟨a, xs, rfl, s1, r1⟩ := l.get ef (ef.tm _ hu)
  have ex := rpl_strs r1
  subst ex
  refine ⟨a, ss, rfl, .inl s1, hz, fun ys p hp hs hn => q _ _ ?_⟩
  have ey := asc_unique (hp.trans (srt_perm ss).symm) (asc_sorted hs) (srt_asc ss)
  subst ey
  exact ⟨F, g, ef.cell (o := .lst ((srt ss).map V.str)) hn (n := .lst (stD (srt ss))) ⟨_, upd_same, rpl_mk _⟩⟩
theorem evn_srt {b : Bool} {ss : List Str} (h : EvD K te ro ka w k1) (l : Lk k1 w false (stD ss) b) (hz : ss.length < 64) : EvN K (tCB (rSortedS K) (tCons te tNil)) ro ka (.lst (stD (srt ss))) k1 := evn_cb (ea1 h) (rcn_srt l hz)
/-- str(text) -/
def rStrS : List V → Hp → VK → Prop := fun xs H Q => ∃ a, xs = [.str a] ∧ Q (.str a) H
theorem call_strS {X : Cx} : CallR X (.type "str") rStrS := SkE.call_str_str
theorem ev_strS {s : Str} (h : EvD K te ro ka (.val (.str s)) k1) : EvD K (tCB rStrS (tCons te tNil)) ro ka (.val (.str s)) k1 := ev_cb (ea1 h) fun B F0 ro ta sg H us Q e hl hm q => by
  obtain ⟨u, rfl, hu⟩ := zip_one hl hm
  have := e.tm_str hu
  subst this
  exact ⟨s, rfl, q _ _ (e.push_imm fun _ => rfl)⟩
/-- the different ones, in the order in which they come -/
def dedS (xs : List Str) : List Str := xs.foldl (fun acc s => if s ∈ acc then acc else acc ++ [s]) []
def inOrd (xs : List Str) : List Str := srt (dedS xs)
theorem dedS_snoc (xs : List Str) (s : Str) : dedS (xs ++ [s]) = if s ∈ dedS xs then dedS xs else dedS xs ++ [s] := by
  unfold dedS
  rw [List.foldl_append]
  rfl
theorem dedS_all (n : Nat) : ∀ xs : List Str, xs.length = n → (dedS xs).Nodup ∧ (∀ s, s ∈ dedS xs ↔ s ∈ xs) ∧ (dedS xs).length ≤ xs.length := by
  induction n with
  | zero => intro xs h; rw [List.eq_nil_of_length_eq_zero h]; exact ⟨List.Pairwise.nil, fun s => Iff.rfl, Nat.le_refl _⟩
  | succ n ih =>
    intro xs h
    have hne : xs ≠ [] := fun z => by rw [z] at h; cases h
    obtain ⟨h1, h2, h3⟩ := ih xs.dropLast (by rw [List.length_dropLast, h]; rfl)
    rw [← List.dropLast_concat_getLast hne]
    generalize xs.dropLast = ys at h1 h2 h3
    generalize xs.getLast hne = s
    rw [dedS_snoc]
    split
    · rename_i q
      refine ⟨h1, fun t => ?_, by rw [List.length_append]; omega⟩
      rw [h2 t, List.mem_append, List.mem_singleton]
      exact ⟨.inl, fun z => z.elim id fun z => z ▸ (h2 s).mp q⟩
    · rename_i q
      refine ⟨List.nodup_append.mpr ⟨h1, by simp, fun a ha b hb e => ?_⟩, fun t => ?_, by rw [List.length_append, List.length_append]; exact Nat.add_le_add_right h3 1⟩
      · rw [List.mem_singleton.mp hb] at e; exact q (e ▸ ha)
      · rw [List.mem_append, List.mem_append, h2 t]
theorem dedS_nd (xs : List Str) : (dedS xs).Nodup := (dedS_all _ xs rfl).1
theorem mem_dedS {xs : List Str} {s : Str} : s ∈ dedS xs ↔ s ∈ xs := (dedS_all _ xs rfl).2.1 s
theorem dedS_len (xs : List Str) : (dedS xs).length ≤ xs.length := (dedS_all _ xs rfl).2.2
/-- such a dict -/
def tabS (ss : List Str) : List (Key × D) := ss.map fun s => (.inr s, .bl true)
theorem tabS_put (ss : List Str) (s : Str) : putT (tabS ss) (.inr s) (.bl true) = tabS (if s ∈ ss then ss else ss ++ [s]) := by
  have ha : hasT (tabS ss) (Sum.inr s) = decide (s ∈ ss) := by
    unfold hasT tabS
    rw [List.any_map, Bool.eq_iff_iff]
    rw [List.any_eq_true, decide_eq_true_eq]
    constructor
    · rintro ⟨t, ht, h⟩
      have : t = s := Sum.inr.inj (of_decide_eq_true h)
      exact this ▸ ht
    · intro h
      exact ⟨s, h, decide_eq_true rfl⟩
  unfold putT
  rw [ha]
  by_cases q : s ∈ ss
  · rw [if_pos (decide_eq_true q), if_pos q]
    unfold tabS
    rw [List.map_map]
    refine List.map_congr_left fun t _ => ?_
    show newAt _ _ _ = _
    unfold newAt
    split <;> rfl
  · rw [if_neg (by simpa using q), if_neg q]
    unfold tabS
    rw [List.map_append]
    rfl
end
end DL

/-! DW: data of any depth: in, < (own work). -/
namespace DL
open PySem L2 PySem.W PySem.SeqAt
mutual
def pdD : D → PyData
  | .bl b => .bool b | .int i => .int i | .str s => .str s
  | .tup ds => .tuple (pdL ds) | .lst ds => .list (pdL ds)
  | _ => .none
def pdL : List D → List PyData
  | [] => []
  | d :: ds => pdD d :: pdL ds
end
section
variable {X : Cx} {pins : List (Addr × Obj)} {sg : L2.St} {H G : Hp} {s : Shared}
end
/-- values of α as data -/
structure Enc (α : Type) [DecidableEq α] [Datum α] (f : α → D) : Prop where
  pd : ∀ a, pdD (f a) = Datum.toD a
  pl : ∀ a, DL.pl 60 (f a) = true
section
variable {K : PySem.W.Frag} {B F F0 : Hp} {ro : Ro} {ka k1 k2 k3 kr : Cells} {ta : List (V × W)} {sg : L2.St} {H H' : Hp} {te tf tg : TE} {w x y z : W}
variable {α : Type} [DecidableEq α]
end

end DL

/-! DX: a dict comprehension stored in a local name on its own line (own work over the hand layer's dc_core). -/
namespace DL
open PySem PySem.Spec PyProof.Rows L2
section
variable {X : Cx} {i : Nat} {y : Str} {py pos spos : Pos} {kx vx tg iter : Expr} {ifs : List Expr} {scope : Scope} {own : List (Str × Nat)} {wi : TI} {g : TG} {tt : TT} {tk tv : TE}
end
end DL

/-! DY: != of two tuples whose items are equal, some by an own == (own work; the equality of the items is the hand layer's EqG). -/
namespace DL
open PySem L2 PySem.SeqAt
section
variable {prog : Program} {w : World}
end
section
variable {X : Cx} {n : Nat} {D : Eqv}
end
end DL
namespace DL
open PySem L2 PySem.W
section
variable {K : PySem.W.Frag} {B F F0 : Hp} {ro : Ro} {ka k1 k2 : Cells} {ta : List (V × W)} {sg : L2.St} {H H' : Hp} {te tf : TE} {C : Addr} {Cc : Ct}
theorem En.ext (e : En K B F0 ro ka ta sg H) (x : L2.Ext H H') : En K B F0 ro ka ta sg H' := by
  obtain ⟨F, g, q⟩ := e
  refine ⟨F, g, q.nz, q.fz.sub x, fun a o h => x _ _ (q.fr _ _ h), q.nd, fun p hp => ?_, q.ln, q.sl, q.tm⟩
  obtain ⟨h1, h2, h3⟩ := q.ce p hp
  refine ⟨h1, h2, ?_⟩
  obtain ⟨a, n⟩ := p
  cases n with
  | lst ds => obtain ⟨xs, e, r⟩ := h3; exact ⟨xs, x _ _ e, r⟩
  | dic ds => obtain ⟨xs, e, r⟩ := h3; exact ⟨xs, x _ _ e, r⟩
  | dit ds => obtain ⟨xs, e, r⟩ := h3; exact ⟨xs, x _ _ e, r⟩
  | ldic o xs ds => obtain ⟨e, r⟩ := h3; exact ⟨x _ _ e, r⟩
  | ins C ds => obtain ⟨dx, xs, e, r⟩ := h3; exact ⟨dx, xs, x _ _ e, r⟩
  | xd ds => obtain ⟨xs, e, r⟩ := h3; exact ⟨xs, x _ _ e, r⟩
  | din w ds => obtain ⟨xs, e, r⟩ := h3; exact ⟨xs, x _ _ e, r⟩
end
end DL

/-! DZ: evaluation by a relation (own work). -/
namespace DL
open PySem L2 PySem.W
/-- te ends with some value and cells of which P tells -/
def EvR (K : PySem.W.Frag) (te : TE) (ro : Ro) (ka : Cells) (P : W → Cells → Prop) : Prop := ∀ B F0 ta sg H (Q : VK), En K B F0 ro ka ta sg H → (∀ w k v H', P w k → En K B F0 ro k ((v, w) :: ta) sg H' → Q v H') → te sg H Q
def RvR (K : PySem.W.Frag) (r : R2) (ka : Cells) (x y : W) (P : W → Cells → Prop) : Prop := ∀ B F0 ro ta sg H u v (Q : VK), En K B F0 ro ka ta sg H → (u, x) ∈ ta → (v, y) ∈ ta → (∀ w k t H', P w k → En K B F0 ro k ((t, w) :: ta) sg H' → Q t H') → r u v H Q
section
variable {K : PySem.W.Frag} {B F F0 : Hp} {ro : Ro} {ka k1 k2 k3 kr : Cells} {ta : List (V × W)} {sg : L2.St} {H H' : Hp} {te tf tg : TE} {tr : TA} {w x y z : W} {n : Nd} {P P2 : W → Cells → Prop} {De : Ends} {u : TS} {E : XK} {r : R2}
theorem EvD.toR (h : EvD K te ro ka w k1) : EvR K te ro ka (fun w' k => w' = w ∧ k = k1) := fun B F0 ta sg H Q e q => h B F0 ta sg H Q e fun v H' e' => q w k1 v H' ⟨rfl, rfl⟩ e'
theorem En.tmA (e : En K B F0 ro ka ta sg H) (a : Addr) : En K B F0 ro ka ((.ref a, .val (.adr a)) :: ta) sg H := e.push_imm fun _ => rfl
theorem EvN.toR (h : EvN K te ro ka n k1) : EvR K te ro ka (fun w' k => ∃ a, w' = .val (.adr a) ∧ k = k1 ++ [(a, n)]) := fun B F0 ta sg H Q e q => h B F0 ta sg H Q e fun a H' e' => q _ _ _ H' ⟨a, rfl, rfl⟩ (e'.tmA a)
theorem EvR.imp (h : EvR K te ro ka P) (i : ∀ w k, P w k → P2 w k) : EvR K te ro ka P2 := fun B F0 ta sg H Q e q => h B F0 ta sg H Q e fun w k v H' p => q w k v H' (i w k p)
theorem RvD.toR (h : RvD K r ka x y z) : RvR K r ka x y (fun w' k => w' = z ∧ k = ka) := fun B F0 ro ta sg H u v Q e h1 h2 q => h B F0 ro ta sg H u v Q e h1 h2 fun t H' e' => q z ka t H' ⟨rfl, rfl⟩ e'
theorem RvN.toR (h : RvN K r ka x y n) : RvR K r ka x y (fun w' k => ∃ a, w' = .val (.adr a) ∧ k = ka ++ [(a, n)]) := fun B F0 ro ta sg H u v Q e h1 h2 q => h B F0 ro ta sg H u v Q e h1 h2 fun a H' e' => q _ _ _ H' ⟨a, rfl, rfl⟩ (e'.tmA a)
theorem RvR.imp (h : RvR K r ka x y P) (i : ∀ w k, P w k → P2 w k) : RvR K r ka x y P2 := fun B F0 ro ta sg H u v Q e h1 h2 q => h B F0 ro ta sg H u v Q e h1 h2 fun w k t H' p => q w k t H' (i w k p)
/-- a call whose end a word tells -/
theorem evr_call {Cc : Ct} {ws : List W} {out : Oc} (kr : Cells) (ha : EvA K tr ro ka ws (k1 ++ kr)) (hC : Cc ws k1 out) (ho : ∀ o k, out o k → ∃ d, o = .ret d) : EvR K (tCall (spC K Cc) [] E tr) ro ka (fun w k => ∃ d k2, out (.ret d) k2 ∧ w = .val d ∧ k = k2 ++ kr) := fun B F0 ta sg H Q e q =>
  ha B F0 ta sg H _ e fun vs H1 hl e1 => by
    rw [List.append_nil]
    exact sp_rel e1 hl hC ho fun d k2 v H' o e2 => q _ _ v H' ⟨d, k2, o, rfl, rfl⟩ e2
theorem EvR.op (h : EvR K te ro ka P) (h2 : ∀ w k, P w k → ∃ y k2, EvD K tf ro k y k2 ∧ RvR K r k2 w y P2) : EvR K (tOp r te tf) ro ka P2 := fun B F0 ta sg H Q e q =>
  h B F0 ta sg H _ e fun w k v H1 p e1 => by
    obtain ⟨y, k2, hb, hr⟩ := h2 w k p
    exact hb B F0 _ sg H1 _ e1 fun v2 H2 e2 => hr B F0 ro _ sg H2 v v2 Q e2 (List.mem_cons_of_mem _ List.mem_cons_self) List.mem_cons_self fun w3 k3 t H3 p3 e3 => q w3 k3 t H3 p3 (e3.held fun z hz => by
      rcases List.mem_cons.mp hz with rfl | hz
      · exact List.mem_cons_self
      · exact List.mem_cons_of_mem _ (List.mem_cons_of_mem _ (List.mem_cons_of_mem _ hz)))
theorem g_asgR {i : Nat} (h : EvR K te ro ka P) (k : ∀ w k1, P w k1 → Gp K B F0 ta De.nx (ro.set i (some w)) k1) : Gp K B F0 ta (tAsg te (gName i) De) ro ka := fun sg H e => h B F0 ta sg H _ e fun w k1 v H1 p e1 => k w k1 p _ _ (e1.set i)
theorem q_asgR {i : Nat} (h : EvR K te ro ka P) (k : ∀ w k1, P w k1 → Gp K B F0 ta (u De) (ro.set i (some w)) k1) : Gp K B F0 ta (tSeq (tAsg te (gName i)) u De) ro ka := g_asgR (De := { De with nx := u De }) h k

/-! ### methods, min -/
theorem evr_meth {Cc : Ct} {ws : List W} {out : Oc} {C : Addr} {m : Str} {fs : List (Str × D)} {b : Bool} (kr : Cells) (h : EvD K te ro ka w k1) (l : Io k1 w C fs b) (hm : fs.lookup m = none) (ha : EvA K tr ro k1 ws (k2 ++ kr)) (hC : Cc (w :: ws) k2 out) (ho : ∀ o k, out o k → ∃ d, o = .ret d) : EvR K (tMeth C m (spC K Cc) [] E te tr) ro ka (fun w' k => ∃ d k3, out (.ret d) k3 ∧ w' = .val d ∧ k = k3 ++ kr) := fun B F0 ta sg H Q e q =>
  h B F0 ta sg H _ e fun v H1 e1 => by
    obtain ⟨F, g, ef⟩ := id e1
    obtain ⟨a, dx, xs, rfl, ha1, rx⟩ := l.get ef (ef.tm _ List.mem_cons_self)
    refine ⟨a, dx, xs, rfl, ha1, rpf_none rx hm, ha B F0 _ sg H1 _ e1 fun vs H2 hl e2 => ?_⟩
    rw [List.append_nil]
    refine sp_rel (ws := w :: ws) (vs := .ref a :: vs) (kr := kr) (ta := ta) (e2.held fun p hp => ?_) (by rw [List.length_cons, List.length_cons, hl]) hC ho fun d k3 v3 H' o e3 => q _ _ v3 H' ⟨d, k3, o, rfl, rfl⟩ e3
    have hp' : p ∈ (V.ref a, w) :: (vs.zip ws ++ ta) := hp
    rcases List.mem_cons.mp hp' with rfl | hp
    · exact List.mem_append_right _ List.mem_cons_self
    · rcases List.mem_append.mp hp with hp | hp
      · exact List.mem_append_left _ hp
      · exact List.mem_append_right _ (List.mem_cons_of_mem _ hp)
theorem EvR.d (h : EvR K te ro ka P) (hP : ∀ w' k, P w' k → w' = w ∧ k = k1) : EvD K te ro ka w k1 := fun B F0 ta sg H Q e q => h B F0 ta sg H Q e fun w' k v H' p e' => by
  obtain ⟨rfl, rfl⟩ := hP w' k p
  exact q v H' e'
/-- the pool, wherever the def holds it -/
theorem q_turn {s0 w : W} {n : Nat} {Pp : L2.St → Hp → Prop} (hl : ro.length = n + 2) (h0 : ro[0]? = some (some s0)) (h : Gp K B F0 ta Pp (some s0 :: some w :: List.replicate n none) ka) : Gp K B F0 ta Pp (ro.set 1 (some w)) ka := by
  refine h.forget ?_ fun i w' hi => ?_
  · rw [List.length_cons, List.length_cons, List.length_replicate, List.length_set, hl]
  · cases i with
    | zero =>
      cases hi
      rw [List.getElem?_set_ne (by decide)]
      exact h0
    | succ i =>
      cases i with
      | zero =>
        cases hi
        exact List.getElem?_set_self (by omega)
      | succ i =>
        have hi' : (List.replicate n (none : Option W))[i]? = some (some w') := hi
        obtain ⟨h1, h2⟩ := List.getElem?_eq_some_iff.mp hi'
        rw [List.getElem_replicate] at h2
        cases h2
theorem inV_strs (s : Str) : ∀ ss : List Str, inV (.str s) (ss.map V.str) = decide (s ∈ ss)
  | [] => rfl
  | t :: ss => by
    show ((t == s) || inV (.str s) (ss.map V.str)) = _
    rw [inV_strs s ss, Bool.eq_iff_iff, Bool.or_eq_true, decide_eq_true_eq, decide_eq_true_eq, List.mem_cons, beq_iff_eq]
    exact ⟨fun h => h.elim (fun q => .inl q.symm) .inr, fun h => h.elim (fun q => .inl q.symm) .inr⟩
theorem all_flat : ∀ ss : List Str, (ss.map V.str).all flatV = true
  | [] => rfl
  | t :: ss => by
    rw [List.map_cons, List.all_cons, all_flat ss]
    rfl
theorem rv_inL {neg tt b : Bool} {s : Str} {ss : List Str} (l : Lk ka y tt (stD ss) b) : RvD K (rIn K neg) ka (.val (.str s)) y (.val (.bl (if neg then !decide (s ∈ ss) else decide (s ∈ ss)))) := fun B F0 ro ta sg H u v Q e h1 h2 q => by
  obtain ⟨F, g, ef⟩ := id e
  have hu := e.tm_str h1
  subst hu
  obtain ⟨a, xs, rfl, s1, r1⟩ := l.get ef (ef.tm _ h2)
  have ex := rpl_strs r1
  subst ex
  refine ⟨a, ss.map V.str, rfl, s1.sq, rfl, all_flat ss, ?_⟩
  rw [inV_strs]
  exact q _ _ (e.push_imm fun _ => rfl)
theorem ev_inL {tt b : Bool} {s : Str} {ss : List Str} (h : EvD K te ro ka (.val (.str s)) k1) (h2 : EvD K tf ro k1 y k2) (l : Lk k2 y tt (stD ss) b) : EvD K (tOp (rInU K) te tf) ro ka (.val (.bl (decide (s ∈ ss)))) k2 := ev_op h h2 (rvd_r (rv_inL (neg := false) l))
theorem ev_niL {tt b : Bool} {s : Str} {ss : List Str} (h : EvD K te ro ka (.val (.str s)) k1) (h2 : EvD K tf ro k1 y k2) (l : Lk k2 y tt (stD ss) b) : EvD K (tOp (rNiU K) te tf) ro ka (.val (.bl (!decide (s ∈ ss)))) k2 := ev_op h h2 (rvd_r (rv_inL (neg := true) l))
theorem ei_map {α : Type} {ts : List α} {f : α → D} (h : EvD K te ro ka (.val (.lst (ts.map f))) k1) : EvI K (iSeq K te) ro ka (ts.map fun t => W.val (f t)) (fun _ => True) k1 := by
  have := ei_seq h .vl
  have e : (ts.map f).map (part false) = ts.map fun t => W.val (f t) := by rw [List.map_map]; rfl
  rw [e] at this
  exact this
theorem ei_strs {ss : List Str} (h : EvD K te ro ka (.val (.lst (stD ss))) k1) : EvI K (iSeq K te) ro ka (ss.map fun s => W.val (.str s)) (fun _ => True) k1 := by
  have := ei_seq h .vl
  unfold stD at this
  rw [List.map_map] at this
  exact this

/-! ### targets -/
/-- the target g takes a value of w: the slots behind it -/
def AsT (K : PySem.W.Frag) (g : TG) (w : W) (ro ro' : Ro) : Prop := ∀ B F0 ka ta sg H v (Q : L2.St → Hp → Prop), En K B F0 ro ka ta sg H → (v, w) ∈ ta → (∀ sg', En K B F0 ro' ka ta sg' H → Q sg' H) → g v sg H Q
def AsL (K : PySem.W.Frag) (t : TGs) (ws : List W) (ro ro' : Ro) : Prop := ∀ B F0 ka ta sg H vs (Q : L2.St → Hp → Prop), En K B F0 ro ka ta sg H → vs.length = ws.length → (∀ p ∈ vs.zip ws, p ∈ ta) → (∀ sg', En K B F0 ro' ka ta sg' H → Q sg' H) → t vs sg H Q
variable {ro' ro2 : Ro} {g : TG} {t : TGs} {ws : List W}
theorem at_n {i : Nat} : AsT K (gName i) w ro (ro.set i (some w)) := fun B F0 ka ta sg H v Q ⟨F, g, e⟩ h q => q _ ⟨F, g, e.set (e.tm _ h) i⟩
theorem al_nil : AsL K gNil [] ro ro := fun B F0 ka ta sg H vs Q e hl h q => ⟨List.eq_nil_of_length_eq_zero hl, q _ e⟩
theorem al_cons (h1 : AsT K g w ro ro2) (h2 : AsL K t ws ro2 ro') : AsL K (gCons g t) (w :: ws) ro ro' := fun B F0 ka ta sg H vs Q e hl h q => by
  cases vs with
  | nil => cases hl
  | cons v r => exact ⟨v, r, rfl, h1 B F0 ka ta sg H v _ e (h _ List.mem_cons_self) fun sg1 e1 => h2 B F0 ka ta sg1 H r Q e1 (by simpa using hl) (fun p hp => h p (List.mem_cons_of_mem _ hp)) q⟩
theorem at_tup {ds : List D} {m : Nat} (hm : ds.length = m) (h : AsL K t (ds.map W.val) ro ro') : AsT K (gTup K m t) (.val (.tup ds)) ro ro' := fun B F0 ka ta sg H v Q e hv q => by
  obtain ⟨F, gr, ef⟩ := id e
  obtain ⟨a, xs, rfl, s1, r1⟩ := Lk.vt.get ef (ef.tm _ hv)
  refine ⟨a, xs, rfl, s1, by rw [rpl_len r1, hm], h B F0 ka (xs.zip (ds.map W.val) ++ ta) sg H xs Q ?_ (by rw [List.length_map, rpl_len r1]) (fun p hp => List.mem_append_left _ hp) fun sg' e' => q sg' (e'.held fun p hp => List.mem_append_right _ hp)⟩
  refine ⟨F, gr, ⟨ef.nz, ef.fz, ef.fr, ef.nd, ef.ce, ef.ln, ef.sl, fun p hp => ?_⟩⟩
  rcases List.mem_append.mp hp with hp | hp
  · have : ∀ (ds : List D) (xs : List V), RpL K F ds xs → ∀ p ∈ xs.zip (ds.map W.val), WOk K B F p.1 p.2 := by
      intro ds
      induction ds with
      | nil => intro xs h p hp; rw [show xs = [] from h] at hp; simp at hp
      | cons d ds ih =>
        intro xs h p hp
        obtain ⟨x, ys, rfl, h1, h2⟩ := h
        rcases List.mem_cons.mp hp with rfl | hp
        · exact h1
        · exact ih ys h2 p hp
    exact this ds xs r1 p hp
  · exact ef.tm p hp
theorem g_asgT (h : EvD K te ro ka w k1) (a : AsT K g w ro ro') (k : Gp K B F0 ta De.nx ro' k1) : Gp K B F0 ta (tAsg te g De) ro ka := fun sg H e => h B F0 ta sg H _ e fun v H1 e1 => a B F0 k1 _ sg H1 v _ e1 List.mem_cons_self fun sg' e' => k _ _ e'.pop
theorem q_asgT (h : EvD K te ro ka w k1) (a : AsT K g w ro ro') (k : Gp K B F0 ta (u De) ro' k1) : Gp K B F0 ta (tSeq (tAsg te g) u De) ro ka := g_asgT (De := { De with nx := u De }) h a k
/-- a loop whose target is of any form -/
theorem g_forT {wi : TI} {C : Cells → Prop} {tb : TS} (h : EvI K wi ro ka ws C k1) (Inv : Nat → Ro → Cells → Prop) (h0 : Inv 0 ro k1) (hC : ∀ i ro2 ka2, Inv i ro2 ka2 → C ka2)
    (hs : ∀ i w ro2 ka2 ta', ws[i]? = some w → Inv i ro2 ka2 → ∃ ro3, AsT K g w ro2 ro3 ∧ Gp K B F0 ta' (tb { De with nx := Jp K B F0 ta' (Inv (i + 1)), ct := Jp K B F0 ta' (Inv (i + 1)), bk := De.nx }) ro3 ka2)
    (hd : ∀ ro2 ka2 ta', Inv ws.length ro2 ka2 → (∀ p ∈ ta, p ∈ ta') → Gp K B F0 ta' De.nx ro2 ka2) : Gp K B F0 ta (tFor wi g tb De) ro ka :=
  g_for h Inv h0 hC (fun i w ro2 ka2 hw inv ta' sg H e x ex => by
    obtain ⟨ro3, a, gp⟩ := hs i w ro2 ka2 ta' hw inv
    exact a B F0 ka2 _ sg H x _ ex List.mem_cons_self fun sg' e' => gp _ _ e'.pop) hd
theorem q_forT {wi : TI} {C : Cells → Prop} {tb : TS} (h : EvI K wi ro ka ws C k1) (Inv : Nat → Ro → Cells → Prop) (h0 : Inv 0 ro k1) (hC : ∀ i ro2 ka2, Inv i ro2 ka2 → C ka2)
    (hs : ∀ i w ro2 ka2 ta', ws[i]? = some w → Inv i ro2 ka2 → ∃ ro3, AsT K g w ro2 ro3 ∧ Gp K B F0 ta' (tb { De with nx := Jp K B F0 ta' (Inv (i + 1)), ct := Jp K B F0 ta' (Inv (i + 1)), bk := u De }) ro3 ka2)
    (hd : ∀ ro2 ka2 ta', Inv ws.length ro2 ka2 → (∀ p ∈ ta, p ∈ ta') → Gp K B F0 ta' (u De) ro2 ka2) : Gp K B F0 ta (tSeq (tFor wi g tb) u De) ro ka := g_forT (De := { De with nx := u De }) h Inv h0 hC hs hd
end
end DL

/-! ER: a tuple read backwards (own work). -/
namespace DL
open PySem L2 PySem.W PyProof.Rows

section
variable {prog : Program} {w : World} {A : Around} {E : Value → Shared → Prop} {s : Shared}
end
section
variable {X : Cx} {e : Expr} {te : TE} {n : Nat} {pa pb pc pd : Pos}
end
end DL

/-! EA: dicts read and written, walked while frozen, objects frozen (own work). -/
namespace DL
open PySem L2 PySem.W

/-- w is a dict of ds; b: viewed -/
inductive Dk (ka : Cells) : W → List (Key × D) → Bool → Prop where
  | v {ds : List (Key × D)} : Dk ka (.val (.dic ds)) ds false
  | w {ds : List (Key × D)} : Dk ka (.vw (.dic ds)) ds true
  | ce {a : Addr} {ds : List (Key × D)} (j : Nat) (h : ka[j]? = some (a, .dic ds)) : Dk ka (.val (.adr a)) ds false
  | cl {a : Addr} {o : Obj} {xs : List (Key × V)} {ds : List (Key × D)} (j : Nat) (h : ka[j]? = some (a, .ldic o xs ds)) : Dk ka (.val (.adr a)) ds false
section
variable {K : PySem.W.Frag} {B B' F F' F0 : Hp} {ro ro' : Ro} {ka k1 k2 k3 kr : Cells} {ta : List (V × W)} {sg sg' : L2.St} {H H' : Hp} {te tf tg td ty tk tv : TE} {tr : TA} {tt tu : TT} {w x y z : W} {n m : Nd} {C dx a : Addr} {b : Bool} {P : L2.St → Hp → Prop} {De : Ends} {t u : TS} {E : XK} {ds : List (Key × D)}
theorem Dk.get {v : V} (l : Dk ka w ds b) (e : EnF K B F ro ka ta sg H) (h : WOk K B F v w) : ∃ a xs, v = .ref a ∧ Rd H a (.dK xs) ∧ RpK K (if b then uni B F else F) ds xs := by
  cases l with
  | v =>
    obtain ⟨a, xs, rfl, h1, h2⟩ := h
    exact ⟨a, xs, rfl, e.fz.rd e.nz h1, h2⟩
  | w =>
    obtain ⟨a, xs, rfl, h1, h2⟩ := h
    exact ⟨a, xs, rfl, (uni_exz e.fz e.fr).rd (uni_nz e.nz) h1, h2⟩
  | ce j hj =>
    obtain rfl : v = .ref _ := h
    obtain ⟨_, _, xs, h1, h2⟩ := e.ce _ (List.mem_of_getElem? hj)
    exact ⟨_, xs, rfl, .inl h1, h2⟩
  | cl j hj =>
    obtain rfl : v = .ref _ := h
    obtain ⟨_, _, h1, h2⟩ := e.ce _ (List.mem_of_getElem? hj)
    exact ⟨_, _, rfl, .inr ⟨_, h1⟩, h2⟩
theorem En.dk {v : V} (l : Dk ka w ds b) (e : En K B F0 ro ka ta sg H) (h : (v, w) ∈ ta) : ∃ F a xs, Gr B F0 F ∧ EnF K B F ro ka ta sg H ∧ v = .ref a ∧ Rd H a (.dK xs) ∧ RpK K (if b then uni B F else F) ds xs := by
  obtain ⟨F, g, ef⟩ := e
  obtain ⟨a, xs, h1, h2, h3⟩ := l.get ef (ef.tm _ h)
  exact ⟨F, a, xs, g, ef, h1, h2, h3⟩
theorem getV {xs : List (Key × V)} {k : Key} : valV xs k = getT xs k := rfl
/-- d[text] -/
theorem ev_dget {s : Str} {d : D} (h : EvD K td ro ka w k1) (h2 : EvD K ty ro k1 (.val (.str s)) k2) (l : Dk k2 w ds b) (hd : getT ds (.inr s) = some d) : EvD K (tDGet td ty) ro ka (part b d) k2 := fun B F0 ta sg H Q e q =>
  h B F0 ta sg H _ e fun u H1 e1 => h2 B F0 _ sg H1 _ e1 fun v H2 e2 => by
    have hv := e2.tm_str (v := v) (i := s) List.mem_cons_self
    subst hv
    obtain ⟨F, a, xs, g, ef, rfl, h3, h4⟩ := e2.dk l (List.mem_cons_of_mem _ List.mem_cons_self)
    obtain ⟨x, hx, rx⟩ := ((rpk_pt.mp h4).get (.inr s)).2 d hd
    refine ⟨a, x, rfl, .inl ⟨xs, .inr s, h3, rfl, ?_⟩, q _ _ ⟨F, g, ?_⟩⟩
    · rw [getV, hx]
    · exact (ef.held (ta' := ta) fun p hp => List.mem_cons_of_mem _ (List.mem_cons_of_mem _ hp)).push (wok_part b rx)
theorem ev_dgetV {s : Str} {d : D} (h : EvD K td ro ka w k1) (h2 : EvD K ty ro k1 (.val (.str s)) k2) (l : Dk k2 w ds false) (hd : getT ds (.inr s) = some d) : EvD K (tDGet td ty) ro ka (.val d) k2 := ev_dget h h2 l hd
/-- text in d -/
theorem ev_din {s : Str} (h : EvD K ty ro ka (.val (.str s)) k1) (h2 : EvD K td ro k1 w k2) (l : Dk k2 w ds b) : EvD K (tDIn ty td) ro ka (.val (.bl (getT ds (.inr s)).isSome)) k2 := fun B F0 ta sg H Q e q =>
  h B F0 ta sg H _ e fun u H1 e1 => h2 B F0 _ sg H1 _ e1 fun v H2 e2 => by
    have hv := e2.tm_str (v := u) (i := s) (List.mem_cons_of_mem _ List.mem_cons_self)
    subst hv
    obtain ⟨F, a, xs, g, ef, rfl, h3, h4⟩ := e2.dk l List.mem_cons_self
    have hg := (rpk_pt.mp h4).get (.inr s)
    refine ⟨a, getT xs (.inr s), rfl, .inl ⟨xs, .inr s, h3, rfl, rfl⟩, q _ _ ?_⟩
    have e5 := (e2.held (ta' := ta) fun p hp => List.mem_cons_of_mem _ (List.mem_cons_of_mem _ hp)).push_imm (v := .bl (getT xs (.inr s)).isSome) (w := .val (.bl (getT xs (.inr s)).isSome)) fun _ => rfl
    cases hd : getT ds (.inr s) with
    | none => rw [hg.1 hd] at e5 ⊢; exact e5
    | some d =>
      obtain ⟨x, hx, _⟩ := hg.2 d hd
      rw [hx] at e5 ⊢
      exact e5
theorem ev_dni {s : Str} (h : EvD K ty ro ka (.val (.str s)) k1) (h2 : EvD K td ro k1 w k2) (l : Dk k2 w ds b) : EvD K (tDNotIn ty td) ro ka (.val (.bl (!(getT ds (.inr s)).isSome))) k2 := fun B F0 ta sg H Q e q =>
  h B F0 ta sg H _ e fun u H1 e1 => h2 B F0 _ sg H1 _ e1 fun v H2 e2 => by
    have hv := e2.tm_str (v := u) (i := s) (List.mem_cons_of_mem _ List.mem_cons_self)
    subst hv
    obtain ⟨F, a, xs, g, ef, rfl, h3, h4⟩ := e2.dk l List.mem_cons_self
    have hg := (rpk_pt.mp h4).get (.inr s)
    refine ⟨a, getT xs (.inr s), rfl, .inl ⟨xs, .inr s, h3, rfl, rfl⟩, q _ _ ?_⟩
    have e5 := (e2.held (ta' := ta) fun p hp => List.mem_cons_of_mem _ (List.mem_cons_of_mem _ hp)).push_imm (v := .bl (!(getT xs (.inr s)).isSome)) (w := .val (.bl (!(getT xs (.inr s)).isSome))) fun _ => rfl
    cases hd : getT ds (.inr s) with
    | none => rw [hg.1 hd] at e5 ⊢; exact e5
    | some d =>
      obtain ⟨x, hx, _⟩ := hg.2 d hd
      rw [hx] at e5 ⊢
      exact e5
/-- d[text] = v -/
theorem g_dput {s : Str} {d : D} {j : Nat} (hv : EvD K tv ro ka (.val d) k1) (ho : EvD K td ro k1 (.val (.adr a)) k2) (hi : EvD K ty ro k2 (.val (.str s)) k3) (hj : k3[j]? = some (a, .dic ds)) (hz : ds.length < 100000)
    (k : Gp K B F0 ta De.nx ro (k3.set j (a, .dic (putT ds (.inr s) d)))) : Gp K B F0 ta (sDPut td ty tv De) ro ka := fun sg H e =>
  hv B F0 ta sg H _ e fun v H1 e1 => ho B F0 _ sg H1 _ e1 fun u H2 e2 => hi B F0 _ sg H2 _ e2 fun y H3 e3 => by
    have hy := e3.tm_str (v := y) (i := s) List.mem_cons_self
    have hu := e3.tm_adr (v := u) (a := a) (List.mem_cons_of_mem _ List.mem_cons_self)
    subst hy hu
    obtain ⟨F, g, ef, xs, hx, rx⟩ := e3.cellAt hj
    have hvd := ef.tm (v, .val d) (List.mem_cons_of_mem _ (List.mem_cons_of_mem _ List.mem_cons_self))
    refine ⟨a, _, rfl, .inl ⟨xs, .inr s, hx, rfl, ?_, rfl⟩, k _ _ ⟨F, g, ?_⟩⟩
    · rw [(rpk_pt.mp rx).len]
      exact Nat.lt_of_lt_of_le hz (by decide : 100000 ≤ sizeLine)
    · exact (ef.write (o := .dK (putK xs (.inr s) v)) (n' := .dic (putT ds (.inr s) d)) hj ⟨_, upd_same, rpk_pt.mpr ((rpk_pt.mp rx).put (.inr s) hvd)⟩).held fun p hp => List.mem_cons_of_mem _ (List.mem_cons_of_mem _ (List.mem_cons_of_mem _ hp))
theorem q_dput {s : Str} {d : D} {j : Nat} (hv : EvD K tv ro ka (.val d) k1) (ho : EvD K td ro k1 (.val (.adr a)) k2) (hi : EvD K ty ro k2 (.val (.str s)) k3) (hj : k3[j]? = some (a, .dic ds)) (hz : ds.length < 100000)
    (k : Gp K B F0 ta (u De) ro (k3.set j (a, .dic (putT ds (.inr s) d)))) : Gp K B F0 ta (tSeq (sDPut td ty tv) u De) ro ka := g_dput (De := { De with nx := u De }) hv ho hi hj hz k
/-- {} -/
theorem evn_dnew : EvN K tDNewK ro ka (.dic []) ka := fun B F0 ta sg H Q e q => fun p hp => by
  obtain ⟨F, g, e⟩ := e
  exact q p _ ⟨F, g, e.cell (o := .dK []) hp (n := .dic []) ⟨[], upd_same, rfl⟩⟩
/-- {text: v} -/
theorem evn_disp1 {s : Str} {d : D} (hk : EvD K tk ro ka (.val (.str s)) k1) (hv : EvD K tv ro k1 (.val d) k2) : EvN K (tDisp [(tk, tv)]) ro ka (.dic [(.inr s, d)]) k2 := fun B F0 ta sg H Q e q => fun p hp => by
  obtain ⟨F, g, e⟩ := e
  have e1 : En K B F0 ro (ka ++ [(p, .dic [])]) ta sg (upd H p (.dK [])) := ⟨F, g, e.cell (o := .dK []) hp (n := .dic []) ⟨[], upd_same, rfl⟩⟩
  refine hk.fr [(p, .dic [])] B F0 ta sg _ _ e1 fun x H1 e2 => ?_
  have hx := e2.tm_str (v := x) (i := s) List.mem_cons_self
  subst hx
  refine hv.fr [(p, .dic [])] B F0 _ sg _ _ e2 fun y H2 e3 => ?_
  have hj : (k2 ++ [(p, Nd.dic [])])[k2.length]? = some (p, Nd.dic []) := by simp
  obtain ⟨F2, g2, ef, xs, hx2, rx⟩ := e3.cellAt hj
  obtain rfl : xs = [] := rx
  have hvd := ef.tm (y, .val d) List.mem_cons_self
  refine ⟨hx2, [(.inr s, y)], rfl, (by show 1 ≤ 15; decide), q p _ ⟨F2, g2, ?_⟩⟩
  have e4 := ef.write (o := .dK [(.inr s, y)]) (n' := .dic [(.inr s, d)]) hj ⟨_, upd_same, ⟨y, [], rfl, hvd, rfl⟩⟩
  rw [List.set_append_right _ _ (Nat.le_refl _), Nat.sub_self] at e4
  exact e4.held fun p hp => List.mem_cons_of_mem _ (List.mem_cons_of_mem _ hp)

/-! ### a frozen dict is walked -/
/-- what stands at a path of fields stays the same while things are locked -/
def EvP (K : PySem.W.Frag) (te : TE) (ro : Ro) (w : W) : Prop := ∀ B F ka ta sg H, EnF K B F ro ka ta sg H → ∃ v, WOk K B F v w ∧ ∀ H' (Q : VK), (∀ a u, H a = some u → lk u = false → H' a = some u) → Q v H' → te sg H' Q
theorem evp_var {i : Nat} (h : ro[i]? = some (some w)) : EvP K (tVar i) ro w := fun B F ka ta sg H e => by
  obtain ⟨v, h1, h2⟩ := e.sl i w h
  exact ⟨v, h2, fun H' Q _ q => ⟨v, h1, q⟩⟩
theorem evp_fld {f : Str} {d : D} {fs : List (Str × D)} (h : EvP K te ro (.val (.ins C fs))) (c : Cls K C) (nf : NoAttr K C f) (hd : fs.lookup f = some d) : EvP K (tFld K te f) ro (.val d) := fun B F ka ta sg H e => by
  obtain ⟨v, h1, h2⟩ := h B F ka ta sg H e
  obtain ⟨a, dx, xs, rfl, h3, h4⟩ := h1
  obtain ⟨x, hx, rx⟩ := rpf_lookup h4 hd
  have h5 := rd_ins e.nz e.fz h3
  exact ⟨x, rx, fun H' Q hH q => h2 H' _ hH ⟨a, C, dx, xs, x, rfl, hH a _ h5 rfl, c, nf, hx, q⟩⟩
theorem uni_upd {o : Obj} {u : HO} (hl : lk u = true) (h : F a = some u ∨ B a = some u) : uni (upd B a (.frz o u)) F = uni B F := by
  funext c
  unfold uni
  cases q : F c with
  | some x => rfl
  | none =>
    by_cases hc : c = a
    · subst hc
      rw [upd_same]
      rcases h with h | h
      · rw [h] at q; cases q
      · rw [h]
        simp only [hl, if_true]
        cases u <;> first | rfl | cases hl
    · rw [upd_ne hc]
/-- a frozen thing is locked for a while -/
theorem EnF.lockF {o : Obj} {u : HO} (e : EnF K B F ro ka ta sg H) (hF : F a = some u) (hl : lk u = true) (hH : H a = some u ∨ H a = some (.frz o u)) : EnF K (upd B a (.frz o u)) F ro ka ta sg (upd H a (.frz o u)) := by
  have wk : ∀ {v : V} {w : W}, WOk K B F v w → WOk K (upd B a (.frz o u)) F v w := fun {v w} h => by
    cases w with
    | val d => exact h
    | vw d =>
      show Rp K (uni (upd B a (.frz o u)) F) d v
      rw [uni_upd hl (.inl hF)]
      exact h
  refine ⟨e.nz, fun c x h => ?_, fun c x h => ?_, e.nd, fun p hp => ?_, e.ln, fun i w h => ?_, fun p hp => wk (e.tm p hp)⟩
  · by_cases hc : c = a
    · subst hc
      rw [hF] at h
      cases h
      exact .inr ⟨hl, o, upd_same⟩
    · rcases e.fz c x h with q | ⟨q1, q2, q3⟩
      · exact .inl (by rw [upd_ne hc]; exact q)
      · exact .inr ⟨q1, q2, by rw [upd_ne hc]; exact q3⟩
  · by_cases hc : c = a
    · subst hc; rw [upd_same] at h ⊢; exact h
    · rw [upd_ne hc] at h ⊢; exact e.fr c x h
  · obtain ⟨h1, h2, h3⟩ := e.ce p hp
    have hc : p.1 ≠ a := fun z => by rw [z, hF] at h1; cases h1
    exact ⟨h1, by rw [upd_ne hc]; exact h2, ndok_at (upd_ne hc) h3⟩
  · obtain ⟨v, h1, h2⟩ := e.sl i w h
    exact ⟨v, h1, wk h2⟩
/-- .. and back: B stands as before -/
theorem EnF.unlockF {o : Obj} {u : HO} (e : EnF K (upd B a (.frz o u)) F ro ka ta sg H) (hF : F a = some u) (hl : lk u = true) {x : HO} (hx : x = u ∨ x = .frz o u) (hB : ∀ y, B a = some y → y = x) : EnF K B F ro ka ta sg (upd H a x) := by
  have wk : ∀ {v : V} {w : W}, WOk K (upd B a (.frz o u)) F v w → WOk K B F v w := fun {v w} h => by
    cases w with
    | val d => exact h
    | vw d =>
      have h' : Rp K (uni (upd B a (.frz o u)) F) d v := h
      rw [uni_upd hl (.inl hF)] at h'
      exact h'
  refine ⟨e.nz, fun c y h => ?_, fun c y h => ?_, e.nd, fun p hp => ?_, e.ln, fun i w h => ?_, fun p hp => wk (e.tm p hp)⟩
  · by_cases hc : c = a
    · subst hc
      rw [hF] at h
      cases h
      rcases hx with rfl | rfl
      · exact .inl upd_same
      · exact .inr ⟨hl, o, upd_same⟩
    · rcases e.fz c y h with q | ⟨q1, q2, q3⟩
      · exact .inl (by rw [upd_ne hc]; exact q)
      · exact .inr ⟨q1, q2, by rw [upd_ne hc]; exact q3⟩
  · by_cases hc : c = a
    · subst hc; rw [upd_same, hB y h]
    · rw [upd_ne hc]; exact e.fr c y (by rw [upd_ne hc]; exact h)
  · obtain ⟨h1, h2, h3⟩ := e.ce p hp
    have hc : p.1 ≠ a := fun z => by rw [z, hF] at h1; cases h1
    rw [upd_ne hc] at h2
    exact ⟨h1, h2, ndok_at (upd_ne hc) h3⟩
  · obtain ⟨v, h1, h2⟩ := e.sl i w h
    exact ⟨v, h1, wk h2⟩
end
end DL

/-! EB: loops and comprehensions over frozen dicts (own work). -/
namespace DL
open PySem L2 PySem.W
def tLkE (t : TE) : TE := fun σ H Q => t σ H Q ∨ tLockE t σ H Q
theorem pe_lkE {X : Cx} {e : Expr} {t : TE} (h : PE X e t) : PE X e (tLkE t) := ⟨fun pins s σ H Q I q => q.elim (h.run pins s σ H Q I) ((pe_lock h).run pins s σ H Q I)⟩
/-- what is walked, at one state -/
def EvIat (K : PySem.W.Frag) (B F0 : Hp) (wi : TI) (ro : Ro) (ws : List W) (C : Cells → Prop) (ka' : Cells) (ta : List (V × W)) (sg : L2.St) (H : Hp) : Prop := ∀ (R : It → Hp → Prop),
  (∀ J ta' H', (∀ p ∈ ta, p ∈ ta') → En K B F0 ro ka' ta' sg H' →
    (∀ i w ro2 ka2 ta2 sg2 H2, ws[i]? = some w → C ka2 → (∀ p ∈ ta', p ∈ ta2) → En K B F0 ro2 ka2 ta2 sg2 H2 → J.go i H2 ∧ ∀ x H3, J.yld i H2 x H3 → En K B F0 ro2 ka2 ((x, w) :: ta2) sg2 H3) →
    (∀ i ro2 ka2 ta2 sg2 H2, ws.length ≤ i → C ka2 → (∀ p ∈ ta', p ∈ ta2) → En K B F0 ro2 ka2 ta2 sg2 H2 → J.stop i H2) → R J H') → wi sg H R
section
variable {K : PySem.W.Frag} {B F F0 : Hp} {ro : Ro} {ka k1 k2 k3 kr : Cells} {ta : List (V × W)} {sg : L2.St} {H H' : Hp} {te tf tg tk tv : TE} {tr : TA} {tt tu : TT} {w x y z : W} {n m : Nd} {C dx a : Addr} {b : Bool} {P : L2.St → Hp → Prop} {De : Ends} {t u : TS} {E : XK}
theorem lc_at {wi : TI} {ws : List W} {C : Cells → Prop} {j : Nat} {vs : List Nat} {Q : VK} (e : En K B F0 ro ka ta sg H) (h : EvIat K B F0 wi ro ws C k1 ta sg H) (hj : j ∈ vs) (hn : ws.length ≤ 1000000) (Inv : Nat → List D → Cells → Prop) (h0 : Inv 0 [] k1) (hC : ∀ i acc k, Inv i acc k → C k ∧ ∀ x, C (k ++ [x]))
    (hs : ∀ i w acc k, ws[i]? = some w → Inv i acc k → (∃ k2, EvT K tt ((wipeR ro vs).set j (some w)) k false k2 ∧ Inv (i + 1) acc k2) ∨ ∃ k2 k3 d, EvT K tt ((wipeR ro vs).set j (some w)) k true k2 ∧ EvD K te ((wipeR ro vs).set j (some w)) k2 (.val d) k3 ∧ Inv (i + 1) (acc ++ [d]) k3)
    (q : ∀ n k a H', (∃ acc, n = .lst acc ∧ Inv ws.length acc k) → En K B F0 ro (k ++ [(a, n)]) ta sg H' → Q (.ref a) H') : tLc wi (gName j) tt te vs sg H Q :=
  h _ fun J ta' H1 hta e1 hgo hst => fun Dl hD => by
    -- the word: the list so far is the last cell
    let P : Nat → Hp → Prop := fun i H => ∃ acc k, Inv i acc k ∧ acc.length ≤ i ∧ En K B F0 ro (k ++ [(Dl, .lst acc)]) ta' sg H
    have p0 : P 0 (upd H1 Dl (.lst [])) := by
      obtain ⟨F, g, e1⟩ := e1
      exact ⟨[], k1, h0, Nat.le_refl _, F, g, e1.cell (o := .lst []) hD (n := .lst []) ⟨[], upd_same, rfl⟩⟩
    refine ⟨fun i m H => m = ws.length - i ∧ i ≤ ws.length ∧ P i H, ⟨ws.length, by simp, Nat.zero_le _, p0⟩, ?_⟩
    rintro i m H2 ⟨rfl, hi, acc, k, inv, hlen, e2⟩
    by_cases hlt : i < ws.length
    · have hw := List.getElem?_eq_getElem hlt
      obtain ⟨g1, g2⟩ := hgo i ws[i] ro (k ++ [(Dl, .lst acc)]) ta' sg H2 hw ((hC i acc k inv).2 _) (fun p hp => hp) e2
      refine .inr ⟨g1, P (i + 1), fun H' p => ⟨ws.length - (i + 1), by omega, rfl, hlt, p⟩, fun x H3 y => ?_⟩
      have e3 := g2 x H3 y
      refine ⟨wipe_set sg vs hj x, ?_⟩
      -- within the block
      have e4 : En K B F0 ((wipeR ro vs).set j (some ws[i])) (k ++ [(Dl, .lst acc)]) ta' ((wipe sg vs).set j (some x)) H3 := by
        obtain ⟨F, g, e3⟩ := e3
        exact ⟨F, g, ((wipe_en (vs := vs) e3).set (e3.tm _ List.mem_cons_self) j).held fun p hp => List.mem_cons_of_mem _ hp⟩
      -- and back out of it
      have out : ∀ {k : Cells} {ta2 : List (V × W)} {H : Hp}, (∃ F, Gr B F0 F ∧ EnF K B F ((wipeR ro vs).set j (some ws[i])) k ta2 ((wipe sg vs).set j (some x)) H ∧ ∀ (a : Nat) w, ro[a]? = some (some w) → ∃ v, sg[a]? = some (some v) ∧ WOk K B F v w) → En K B F0 ro k ta2 sg H := fun ⟨F, g, q, hs⟩ => ⟨F, g, q.frame (by obtain ⟨_, _, e0⟩ := e; exact e0.ln) hs⟩
      obtain ⟨F3, gF3, eF3⟩ := e3
      have slots : ∀ {F : Hp}, Gr B F3 F → ∀ (a : Nat) w, ro[a]? = some (some w) → ∃ v, sg[a]? = some (some v) ∧ WOk K B F v w := fun {F} g a w ha => by
        obtain ⟨v, h1, h2⟩ := eF3.sl a w ha
        exact ⟨v, h1, wok_gr eF3.nz g h2⟩
      have e4' : En K B F3 ((wipeR ro vs).set j (some ws[i])) (k ++ [(Dl, .lst acc)]) ta' ((wipe sg vs).set j (some x)) H3 :=
        ⟨F3, Gr.refl _ _, ((wipe_en (vs := vs) eF3).set (eF3.tm _ List.mem_cons_self) j).held fun p hp => List.mem_cons_of_mem _ hp⟩
      rcases hs i ws[i] acc k hw inv with ⟨k2, t1, inv2⟩ | ⟨k2, k3, d, t1, t2, inv2⟩
      · refine t1.fr [(Dl, .lst acc)] B F3 ta' _ H3 _ e4' fun H4 ⟨F4, g4, e5⟩ => ?_
        exact ⟨acc, k2, inv2, Nat.le_succ_of_le hlen, out ⟨F4, gF3.trans g4, e5, slots g4⟩⟩
      · refine t1.fr [(Dl, .lst acc)] B F3 ta' _ H3 _ e4' fun H4 e5 => ?_
        refine t2.fr [(Dl, .lst acc)] B F3 ta' _ H4 _ e5 fun v H5 ⟨F5, g5, e6⟩ => ?_
        have hx : (k3 ++ [(Dl, Nd.lst acc)])[k3.length]? = some (Dl, Nd.lst acc) := by simp
        obtain ⟨xs, h1, h2⟩ := e6.rd_lst hx
        have hv := e6.tm _ List.mem_cons_self
        have e7 := e6.write (o := .lst (xs ++ [v])) (n' := .lst (acc ++ [d])) hx ⟨_, upd_same, rpl_app h2 ⟨v, [], rfl, hv, rfl⟩⟩
        have hset : (k3 ++ [(Dl, Nd.lst acc)]).set k3.length (Dl, Nd.lst (acc ++ [d])) = k3 ++ [(Dl, Nd.lst (acc ++ [d]))] := by
          rw [List.set_append_right _ _ (Nat.le_refl _)]
          simp
        rw [hset] at e7
        refine ⟨xs, h1, by rw [rpl_len h2]; exact Nat.lt_of_le_of_lt (Nat.le_trans hlen (Nat.le_trans hi hn)) (by decide), acc ++ [d], k3, inv2, by rw [List.length_append]; exact Nat.succ_le_succ hlen, ?_⟩
        exact out ⟨F5, gF3.trans g5, e7.held fun p hp => List.mem_cons_of_mem _ hp, slots g5⟩
    · have ei : i = ws.length := by omega
      subst ei
      refine .inl ⟨hst _ ro (k ++ [(Dl, .lst acc)]) ta' sg H2 (Nat.le_refl _) ((hC _ acc k inv).2 _) (fun p hp => hp) e2, ?_⟩
      exact q _ _ Dl H2 ⟨acc, rfl, inv⟩ (e2.held hta)
theorem dc_at {wi : TI} {ws : List W} {C : Cells → Prop} {j : Nat} {vs : List Nat} {Q : VK} (e : En K B F0 ro ka ta sg H) (h : EvIat K B F0 wi ro ws C k1 ta sg H) (hj : j ∈ vs) (hn : ws.length ≤ 1000000) (Inv : Nat → List (Key × D) → Cells → Prop) (h0 : Inv 0 [] k1) (hC : ∀ i acc k, Inv i acc k → C k ∧ ∀ x, C (k ++ [x]))
    (hs : ∀ i w acc k, ws[i]? = some w → Inv i acc k → (∃ k2, EvT K tt ((wipeR ro vs).set j (some w)) k false k2 ∧ Inv (i + 1) acc k2) ∨ ∃ k2 k3 k4 c d, EvT K tt ((wipeR ro vs).set j (some w)) k true k2 ∧ EvD K tk ((wipeR ro vs).set j (some w)) k2 (.val (kD c)) k3 ∧ EvD K tv ((wipeR ro vs).set j (some w)) k3 (.val d) k4 ∧ Inv (i + 1) (putT acc c d) k4)
    (q : ∀ n k a H', (∃ acc, n = .dic acc ∧ Inv ws.length acc k) → En K B F0 ro (k ++ [(a, n)]) ta sg H' → Q (.ref a) H') : tDc wi (gName j) tt tk tv vs sg H Q :=
  h _ fun J ta' H1 hta e1 hgo hst => fun Dl hD => by
    let P : Nat → Hp → Prop := fun i H => ∃ acc k, Inv i acc k ∧ acc.length ≤ i ∧ En K B F0 ro (k ++ [(Dl, .dic acc)]) ta' sg H
    have p0 : P 0 (upd H1 Dl (.dK [])) := by
      obtain ⟨F, g, e1⟩ := e1
      exact ⟨[], k1, h0, Nat.le_refl _, F, g, e1.cell (o := .dK []) hD (n := .dic []) ⟨[], upd_same, rfl⟩⟩
    refine ⟨fun i m H => m = ws.length - i ∧ i ≤ ws.length ∧ P i H, ⟨ws.length, by simp, Nat.zero_le _, p0⟩, ?_⟩
    rintro i m H2 ⟨rfl, hi, acc, k, inv, hlen, e2⟩
    by_cases hlt : i < ws.length
    · have hw := List.getElem?_eq_getElem hlt
      obtain ⟨g1, g2⟩ := hgo i ws[i] ro (k ++ [(Dl, .dic acc)]) ta' sg H2 hw ((hC i acc k inv).2 _) (fun p hp => hp) e2
      refine .inr ⟨g1, P (i + 1), fun H' p => ⟨ws.length - (i + 1), by omega, rfl, hlt, p⟩, fun x H3 y => ?_⟩
      have e3 := g2 x H3 y
      refine ⟨wipe_set sg vs hj x, ?_⟩
      have out : ∀ {k : Cells} {ta2 : List (V × W)} {H : Hp}, (∃ F, Gr B F0 F ∧ EnF K B F ((wipeR ro vs).set j (some ws[i])) k ta2 ((wipe sg vs).set j (some x)) H ∧ ∀ (a : Nat) w, ro[a]? = some (some w) → ∃ v, sg[a]? = some (some v) ∧ WOk K B F v w) → En K B F0 ro k ta2 sg H := fun ⟨F, g, q, hs⟩ => ⟨F, g, q.frame (by obtain ⟨_, _, e0⟩ := e; exact e0.ln) hs⟩
      obtain ⟨F3, gF3, eF3⟩ := e3
      have slots : ∀ {F : Hp}, Gr B F3 F → ∀ (a : Nat) w, ro[a]? = some (some w) → ∃ v, sg[a]? = some (some v) ∧ WOk K B F v w := fun {F} g a w ha => by
        obtain ⟨v, h1, h2⟩ := eF3.sl a w ha
        exact ⟨v, h1, wok_gr eF3.nz g h2⟩
      have e4' : En K B F3 ((wipeR ro vs).set j (some ws[i])) (k ++ [(Dl, .dic acc)]) ta' ((wipe sg vs).set j (some x)) H3 :=
        ⟨F3, Gr.refl _ _, ((wipe_en (vs := vs) eF3).set (eF3.tm _ List.mem_cons_self) j).held fun p hp => List.mem_cons_of_mem _ hp⟩
      rcases hs i ws[i] acc k hw inv with ⟨k2, t1, inv2⟩ | ⟨k2, k3, k4, c, d, t1, t2, t3, inv2⟩
      · refine t1.fr [(Dl, .dic acc)] B F3 ta' _ H3 _ e4' fun H4 ⟨F4, g4, e5⟩ => ?_
        exact ⟨acc, k2, inv2, Nat.le_succ_of_le hlen, out ⟨F4, gF3.trans g4, e5, slots g4⟩⟩
      · refine t1.fr [(Dl, .dic acc)] B F3 ta' _ H3 _ e4' fun H4 e5 => ?_
        refine t2.fr [(Dl, .dic acc)] B F3 ta' _ H4 _ e5 fun u H5 e6 => ?_
        have hu := e6.tm_key (v := u) (k := c) List.mem_cons_self
        refine t3.fr [(Dl, .dic acc)] B F3 _ _ H5 _ e6 fun v H6 ⟨F5, g5, e7⟩ => ?_
        have hx : (k4 ++ [(Dl, Nd.dic acc)])[k4.length]? = some (Dl, Nd.dic acc) := by simp
        obtain ⟨xs, h1, h2⟩ := (e7.ce _ (List.mem_of_getElem? hx)).2.2
        have hv := e7.tm _ List.mem_cons_self
        have e8 := e7.write (o := .dK (putK xs c v)) (n' := .dic (putT acc c d)) hx ⟨_, upd_same, rpk_pt.mpr ((rpk_pt.mp h2).put c hv)⟩
        have hset : (k4 ++ [(Dl, Nd.dic acc)]).set k4.length (Dl, Nd.dic (putT acc c d)) = k4 ++ [(Dl, Nd.dic (putT acc c d))] := by
          rw [List.set_append_right _ _ (Nat.le_refl _)]
          simp
        rw [hset] at e8
        refine ⟨xs, c, hu, h1, by rw [(rpk_pt.mp h2).len]; exact Nat.lt_of_le_of_lt (Nat.le_trans hlen (Nat.le_trans hi hn)) (by decide), putT acc c d, k4, inv2, Nat.le_trans (putT_len _ _ _) (Nat.succ_le_succ hlen), ?_⟩
        exact out ⟨F5, gF3.trans g5, e8.held fun p hp => List.mem_cons_of_mem _ (List.mem_cons_of_mem _ hp), slots g5⟩
    · have ei : i = ws.length := by omega
      subst ei
      refine .inl ⟨hst _ ro (k ++ [(Dl, .dic acc)]) ta' sg H2 (Nat.le_refl _) ((hC _ acc k inv).2 _) (fun p hp => hp) e2, ?_⟩
      exact q _ _ Dl H2 ⟨acc, rfl, inv⟩ (e2.held hta)


theorem keys_of {ds : List (Key × D)} {xs : List (Key × V)} (h : RpK K F ds xs) : xs.map (·.1) = ds.map (·.1) := by
  induction ds generalizing xs with
  | nil => rw [show xs = [] from h]; rfl
  | cons p ds ih =>
    obtain ⟨k, d⟩ := p
    obtain ⟨x, ys, rfl, _, h2⟩ := h
    rw [List.map_cons, List.map_cons, ih h2]
/-- the keys of a locked dict, at one state -/
theorem ei_at {ds : List (Key × D)} {o : Obj} {xs : List (Key × V)} (e : En K B F0 ro ka ta sg H) (hB : B a = some (.frz o (.dK xs))) (hk : xs.map (·.1) = ds.map (·.1)) (hte : ∀ Q : VK, Q (.ref a) H → te sg H Q) :
    EvIat K B F0 (iKeys te) ro (ds.map fun kv => W.val (kD kv.1)) (fun _ => True) ka ta sg H := fun R q => hte _ ⟨a, o, rfl, .inl ⟨xs, (let ⟨_, _, ef⟩ := e; ef.fr _ _ hB), q _ ta H (fun p hp => hp) e (fun i w2 ro2 ka2 ta2 sg2 H2 hw _ _ e2 => by
    have hl : H2 a = some (.frz o (.dK xs)) := let ⟨_, _, ef⟩ := e2; ef.fr _ _ hB
    rw [List.getElem?_map] at hw
    obtain ⟨p, hp, rfl⟩ := Option.map_eq_some_iff.mp hw
    have h1 : (xs.map (·.1))[i]? = some p.1 := by rw [hk, List.getElem?_map, hp]; rfl
    rw [List.getElem?_map] at h1
    obtain ⟨y, hy, hy2⟩ := Option.map_eq_some_iff.mp h1
    refine ⟨⟨hl, (List.getElem?_eq_some_iff.mp hy).1⟩, fun x H3 ⟨e3, k, v, h2, h3⟩ => ?_⟩
    subst e3 h3
    rw [hy] at h2
    cases h2
    obtain ⟨pk, pd⟩ := p
    cases hy2
    exact e2.push_imm fun F => by cases k <;> rfl) fun i ro2 ka2 ta2 sg2 H2 hi _ _ e2 => by
    have hl : H2 a = some (.frz o (.dK xs)) := let ⟨_, _, ef⟩ := e2; ef.fr _ _ hB
    refine ⟨hl, ?_⟩
    have : xs.length = ds.length := by have := congrArg List.length hk; rwa [List.length_map, List.length_map] at this
    rw [this]
    rwa [List.length_map] at hi⟩⟩
theorem Gr.unB {B' F' : Hp} (h : Gr B' F F') (hs : ∀ c, B c ≠ none → B' c ≠ none) : Gr B F F' := ⟨h.sub, fun c h1 h2 => h.off c h1 (hs c h2)⟩
theorem upd_id {o : HO} (h : H a = some o) : upd H a o = H := by
  funext c
  unfold upd
  split
  · rename_i q; rw [q, h]
  · rfl
/-- a frozen dict is locked: what holds then, and the way back -/
theorem En.lockD {ds : List (Key × D)} (e : En K B F0 ro ka ta sg H) (hp : EvP K te ro (.val (.dic ds))) : ∃ (F : Hp) (a : Addr) (xs : List (Key × V)), Gr B F0 F ∧ F a = some (.dK xs) ∧ xs.map (·.1) = ds.map (·.1) ∧
    (H a = some (.dK xs) ∨ ∃ o, H a = some (.frz o (.dK xs))) ∧ (∀ y, B a = some y → H a = some y) ∧
    (∀ o, (∀ o', H a = some (.frz o' (.dK xs)) → o' = o) → En K (upd B a (.frz o (.dK xs))) F ro ka ta sg (upd H a (.frz o (.dK xs))) ∧ ∀ Q : VK, Q (.ref a) (upd H a (.frz o (.dK xs))) → te sg (upd H a (.frz o (.dK xs))) Q) := by
  obtain ⟨F, g, ef⟩ := e
  obtain ⟨v, h1, h2⟩ := hp B F ka ta sg H ef
  obtain ⟨a, xs, rfl, h3, h4⟩ := h1
  have hF : F a = some (.dK xs) := by
    rcases h3 with h3 | ⟨o, h3⟩
    · exact h3
    · have := ef.nz a _ h3; cases this
  have hH : H a = some (.dK xs) ∨ ∃ o, H a = some (.frz o (.dK xs)) := (ef.fz a _ hF).imp id fun z => z.2
  refine ⟨F, a, xs, g, hF, keys_of h4, hH, fun y hy => ef.fr _ _ hy, fun o ho => ?_⟩
  have hH2 : H a = some (.dK xs) ∨ H a = some (.frz o (.dK xs)) := hH.imp id fun ⟨o', z⟩ => by rw [← ho o' z]; exact z
  refine ⟨⟨F, Gr.refl _ _, ef.lockF hF rfl hH2⟩, fun Q q => h2 _ Q (fun c u hc hl => ?_) q⟩
  by_cases e : c = a
  · subst e
    rcases hH2 with z | z
    · rw [z] at hc; cases hc; cases hl
    · rw [z] at hc; cases hc; exact upd_same
  · rw [upd_ne e]; exact hc
theorem En.unlockD {o : Obj} {xs : List (Key × V)} {y : HO} (e : En K (upd B a (.frz o (.dK xs))) F ro ka ta sg H) (g : Gr B F0 F) (hF : F a = some (.dK xs)) (hx : y = .dK xs ∨ y = .frz o (.dK xs)) (hB : ∀ z, B a = some z → z = y) : En K B F0 ro ka ta sg (upd H a y) := by
  obtain ⟨F2, g2, ef⟩ := e
  have g3 : Gr B F F2 := Gr.unB g2 fun c hc => by
    by_cases e : c = a
    · subst e; rw [upd_same]; exact fun z => by cases z
    · rw [upd_ne e]; exact hc
  exact ⟨F2, g.trans g3, ef.unlockF (g2.sub _ _ hF) rfl hx hB⟩
/-- what is made while a frozen dict is locked -/
theorem lkE_of {ds : List (Key × D)} {Q : VK} {t2 : TE} {R : Nd → Cells → Prop} (e : En K B F0 ro ka ta sg H) (hp : EvP K te ro (.val (.dic ds)))
    (h : ∀ (B' F1 H1 : Hp) (Q' : VK), En K B' F1 ro ka ta sg H1 → EvIat K B' F1 (iKeys te) ro (ds.map fun kv => W.val (kD kv.1)) (fun _ => True) ka ta sg H1 →
      (∀ n k a H', R n k → En K B' F1 ro (k ++ [(a, n)]) ta sg H' → Q' (.ref a) H') → t2 sg H1 Q')
    (q : ∀ n k a H', R n k → En K B F0 ro (k ++ [(a, n)]) ta sg H' → Q (.ref a) H') : tLkE t2 sg H Q := by
  obtain ⟨F, a, xs, gr, hF, hk, hH, hBH, lock⟩ := e.lockD hp
  rcases hH with hH | ⟨o, hH⟩
  · refine .inr ⟨a, .dK xs, hH, trivial, fun o => ?_⟩
    obtain ⟨e1, hte⟩ := lock o fun o' z => by rw [hH] at z; cases z
    refine h _ F _ _ e1 (ei_at (ds := ds) e1 upd_same hk hte) fun n k a' H' r e2 => ?_
    exact ⟨let ⟨_, _, ef⟩ := e2; ef.fr _ _ upd_same, q n k a' _ r (e2.unlockD gr hF (.inl rfl) fun z hz => by have := hBH z hz; rw [hH] at this; cases this; rfl)⟩
  · obtain ⟨e1, hte⟩ := lock o fun o' z => by rw [hH] at z; cases z; rfl
    refine .inl ?_
    have := h _ F _ Q e1 (ei_at (ds := ds) e1 upd_same hk hte) fun n k a' H' r e2 => by
      have e3 := e2.unlockD gr hF (.inr rfl) fun z hz => by have := hBH z hz; rw [hH] at this; cases this; rfl
      have at_ : H' a = some (.frz o (.dK xs)) := let ⟨_, _, ef⟩ := e2; ef.fr _ _ upd_same
      rw [upd_id at_] at e3
      exact q n k a' H' r e3
    rwa [upd_id hH] at this
/-- [e for k in d if ..], d frozen -/
theorem evr_lcK {ds : List (Key × D)} {j : Nat} {vs : List Nat} (hp : EvP K tg ro (.val (.dic ds))) (hj : j ∈ vs) (hn : ds.length ≤ 1000000) (Inv : Nat → List D → Cells → Prop) (h0 : Inv 0 [] ka)
    (hs : ∀ (i : Nat) (kv : Key × D) acc k, ds[i]? = some kv → Inv i acc k → (∃ k2, EvT K tt ((wipeR ro vs).set j (some (.val (kD kv.1)))) k false k2 ∧ Inv (i + 1) acc k2) ∨ ∃ k2 k3 d, EvT K tt ((wipeR ro vs).set j (some (.val (kD kv.1)))) k true k2 ∧ EvD K te ((wipeR ro vs).set j (some (.val (kD kv.1)))) k2 (.val d) k3 ∧ Inv (i + 1) (acc ++ [d]) k3)
    : EvNR K (tLkE (tLc (iKeys tg) (gName j) tt te vs)) ro ka (fun n k => ∃ acc, n = .lst acc ∧ Inv ds.length acc k) := fun B F0 ta sg H Q e q =>
  lkE_of (R := fun n k => ∃ acc, n = .lst acc ∧ Inv ds.length acc k) e hp (fun B' F1 H1 Q' e1 it q' => lc_at e1 it hj (by rw [List.length_map]; exact hn) Inv h0 (fun _ _ _ _ => ⟨trivial, fun _ => trivial⟩) (fun i w acc k hw inv => by
    rw [List.getElem?_map] at hw
    obtain ⟨kv, hkv, rfl⟩ := Option.map_eq_some_iff.mp hw
    exact hs i kv acc k hkv inv) fun n k a H' r e2 => q' n k a H' (by rw [List.length_map] at r; exact r) e2) q
/-- {k: v for x in d if ..}, d frozen -/
theorem evr_dcK {ds : List (Key × D)} {j : Nat} {vs : List Nat} (hp : EvP K tg ro (.val (.dic ds))) (hj : j ∈ vs) (hn : ds.length ≤ 1000000) (Inv : Nat → List (Key × D) → Cells → Prop) (h0 : Inv 0 [] ka)
    (hs : ∀ (i : Nat) (kv : Key × D) acc k, ds[i]? = some kv → Inv i acc k → (∃ k2, EvT K tt ((wipeR ro vs).set j (some (.val (kD kv.1)))) k false k2 ∧ Inv (i + 1) acc k2) ∨ ∃ k2 k3 k4 c d, EvT K tt ((wipeR ro vs).set j (some (.val (kD kv.1)))) k true k2 ∧ EvD K tk ((wipeR ro vs).set j (some (.val (kD kv.1)))) k2 (.val (kD c)) k3 ∧ EvD K tv ((wipeR ro vs).set j (some (.val (kD kv.1)))) k3 (.val d) k4 ∧ Inv (i + 1) (putT acc c d) k4)
    : EvNR K (tLkE (tDc (iKeys tg) (gName j) tt tk tv vs)) ro ka (fun n k => ∃ acc, n = .dic acc ∧ Inv ds.length acc k) := fun B F0 ta sg H Q e q =>
  lkE_of (R := fun n k => ∃ acc, n = .dic acc ∧ Inv ds.length acc k) e hp (fun B' F1 H1 Q' e1 it q' => dc_at e1 it hj (by rw [List.length_map]; exact hn) Inv h0 (fun _ _ _ _ => ⟨trivial, fun _ => trivial⟩) (fun i w acc k hw inv => by
    rw [List.getElem?_map] at hw
    obtain ⟨kv, hkv, rfl⟩ := Option.map_eq_some_iff.mp hw
    exact hs i kv acc k hkv inv) fun n k a H' r e2 => q' n k a H' (by rw [List.length_map] at r; exact r) e2) q
end
end DL

/-! EC: defaults, objects with cells in their fields, more of dicts (own work). -/
namespace DL
open PySem L2 PySem.W

/-! ### defaults -/
/-- the def at f keeps C, its defaults written out; dvs: its defaults -/
def FnD (P : Program) (w : World) (K : PySem.W.Frag) (mg : Str → Option Value) (base : Heap) (k : Nat) (f : Addr) (ps : List Str) (dvs : List V) (C : Ct) : Prop :=
  ∃ fd, FnOk P w K mg base (L2.CX P w) k f fd ps (spC K C) ∧ ∃ ds, Vals dvs ds ∧ Binds K fd ps ds
section
variable {P : Program} {w : World} {K : PySem.W.Frag} {mg : Str → Option Value} {base : Heap} {k j : Nat} {f : Addr} {ps : List Str} {dvs : List V} {C : Ct}
noncomputable def FnD.fd (F : FnD P w K mg base k f ps dvs C) : FuncData := Classical.choose F
theorem FnD.ok (F : FnD P w K mg base k f ps dvs C) : FnOk P w K mg base (L2.CX P w) k f F.fd ps (spC K C) := (Classical.choose_spec F).1
noncomputable def FnD.ds (F : FnD P w K mg base k f ps dvs C) : List Value := Classical.choose (Classical.choose_spec F).2
theorem FnD.dv (F : FnD P w K mg base k f ps dvs C) : Vals dvs F.ds := (Classical.choose_spec (Classical.choose_spec F).2).1
theorem FnD.bn (F : FnD P w K mg base k f ps dvs C) : Binds K F.fd ps F.ds := (Classical.choose_spec (Classical.choose_spec F).2).2
theorem FnD.up (F : FnD P w K mg base j f ps dvs C) (h : j ≤ k) : FnD P w K mg base k f ps dvs C := let ⟨fd, a, b⟩ := F; ⟨fd, a.mono h, b⟩
end
/-- what stands for the defaults -/
def DvOk (K : PySem.W.Frag) (dvs : List V) (wd : List W) : Prop := dvs.length = wd.length ∧ ∀ B F p, p ∈ dvs.zip wd → WOk K B F p.1 p.2
theorem dv_nil {K : PySem.W.Frag} : DvOk K [] [] := ⟨rfl, fun _ _ _ h => by cases h⟩
theorem dv_cons {K : PySem.W.Frag} {v : V} {w : W} {dvs : List V} {wd : List W} (h : ∀ B F, WOk K B F v w) (r : DvOk K dvs wd) : DvOk K (v :: dvs) (w :: wd) := ⟨by rw [List.length_cons, List.length_cons, r.1], fun B F p hp => by
  rcases List.mem_cons.mp hp with rfl | hp
  · exact h B F
  · exact r.2 B F p hp⟩
section
variable {K : PySem.W.Frag} {B B' F F' F0 : Hp} {ro ro' : Ro} {ka k1 k2 k3 kr : Cells} {ta : List (V × W)} {sg sg' : L2.St} {H H' : Hp} {te tf tg td ty tk tv : TE} {tr : TA} {tt tu : TT} {w x y z : W} {n m : Nd} {C dx a o d : Addr} {b : Bool} {P : W → Cells → Prop} {De : Ends} {u : TS}
theorem En.more (e : En K B F0 ro ka ta sg H) {dvs : List V} {wd : List W} (h : DvOk K dvs wd) : En K B F0 ro ka (dvs.zip wd ++ ta) sg H := by
  obtain ⟨F, g, e⟩ := e
  refine ⟨F, g, { e with tm := fun p hp => ?_ }⟩
  rcases List.mem_append.mp hp with q | q
  · exact h.2 B F p q
  · exact e.tm p q
/-- C(e, ..), told by a word: __init__ may make more cells -/
theorem evr_make {Cc : Ct} {ws wd : List W} {dvs : List V} {E : XK} (ha : EvA K tr ro ka ws k1) (hd : DvOk K dvs wd)
    (hC : ∀ a, ∃ out, Cc (.val (.adr a) :: (ws ++ wd)) (k1 ++ [(a, .ins C [])]) out ∧ ∀ o k, out o k → o = .ret .non ∧ P (.val (.adr a)) k) : EvR K (tMake C (spC K Cc) dvs E tr) ro ka P := fun B F0 ta sg H Q e q =>
  ha B F0 ta sg H _ e fun vs H1 hl e1 => by
    intro x dx hx hdx hne
    obtain ⟨F, g, e1⟩ := e1
    obtain ⟨e2, g2⟩ := e1.lay (o := .own x) hdx rfl
    have hx2 : upd H1 dx (.own x) x = none := by rw [upd_ne (Ne.symm hne)]; exact hx
    have e3 := e2.cell (o := .ins C dx []) hx2 (n := .ins C []) ⟨dx, [], upd_same, rfl⟩
    obtain ⟨out, hC, ho⟩ := hC x
    have e4 : En K B F0 ro ((k1 ++ [(x, .ins C [])]) ++ []) (dvs.zip wd ++ (vs.zip ws ++ ta)) sg (upd (upd H1 dx (.own x)) x (.ins C dx [])) := by
      rw [List.append_nil]
      exact En.more ⟨_, g.trans g2, e3⟩ hd
    have hlen : (V.ref x :: (vs ++ dvs)).length = (W.val (.adr x) :: (ws ++ wd)).length := by rw [List.length_cons, List.length_cons, List.length_append, List.length_append, hl, hd.1]
    have hz : (V.ref x :: (vs ++ dvs)).zip (W.val (.adr x) :: (ws ++ wd)) = (V.ref x, W.val (.adr x)) :: (vs.zip ws ++ dvs.zip wd) := by rw [List.zip_cons_cons, List.zip_append hl]
    have e5 : En K B F0 ro ((k1 ++ [(x, .ins C [])]) ++ []) ((V.ref x :: (vs ++ dvs)).zip (W.val (.adr x) :: (ws ++ wd)) ++ ta) sg (upd (upd H1 dx (.own x)) x (.ins C dx [])) := by
      rw [hz]
      refine (e4.push_imm (v := .ref x) (w := .val (.adr x)) fun _ => rfl).held fun p hp => ?_
      rcases List.mem_cons.mp hp with rfl | hp
      · exact List.mem_cons_self
      · refine List.mem_cons_of_mem _ ?_
        rcases List.mem_append.mp hp with hp | hp
        · rcases List.mem_append.mp hp with hp | hp
          · exact List.mem_append_right _ (List.mem_append_left _ hp)
          · exact List.mem_append_left _ hp
        · exact List.mem_append_right _ (List.mem_append_right _ hp)
    refine sp_rel (kr := []) e5 hlen hC (fun o k h => ⟨_, (ho o k h).1⟩) fun d k2 v H' o e6 => ?_
    obtain ⟨he, p⟩ := ho _ _ o
    cases he
    rw [List.append_nil] at e6
    exact ⟨e6.tm_non List.mem_cons_self, q _ _ (.ref x) H' p (e6.pop.push_imm fun _ => rfl)⟩
theorem evr_ifT (h : EvT K tt ro ka true k1) (h1 : EvR K te ro k1 P) : EvR K (tIf tt te tf) ro ka P := fun B F0 ta sg H Q e q => h B F0 ta sg H _ e fun H1 e1 => h1 B F0 ta sg H1 Q e1 q
/-- o.f = e, e told by a word -/
theorem g_fldR {f : Str} (hv : EvR K tf ro ka P) (c : Cls K C) (nf : NoAttr K C f)
    (k : ∀ w k1, P w k1 → ∃ d k2 j fs, w = .val d ∧ EvD K te ro k1 (.val (.adr a)) k2 ∧ k2[j]? = some (a, .ins C fs) ∧ fs.length < 900 ∧ Gp K B F0 ta De.nx ro (k2.set j (a, .ins C (putD f d fs)))) : Gp K B F0 ta (sFld K te tf f De) ro ka := fun sg H e =>
  hv B F0 ta sg H _ e fun w k1 v H1 p e1 => by
    obtain ⟨d, k2, j, fs, rfl, ho, hj, hz, hk⟩ := k w k1 p
    refine ho B F0 _ sg H1 _ e1 fun x H2 e2 => ?_
    have hx := e2.tm_adr (v := x) (a := a) List.mem_cons_self
    subst hx
    obtain ⟨F, g, ef⟩ := e2
    obtain ⟨_, _, dx, xs, hH, rx⟩ := ef.ce _ (List.mem_of_getElem? hj)
    have vd := ef.tm (v, .val d) (List.mem_cons_of_mem _ List.mem_cons_self)
    have room : xs.length < 900 := by rw [rpf_len rx]; exact hz
    exact ⟨_, C, dx, xs, rfl, hH, c, nf, Nat.lt_trans room (by decide), hk _ _ ⟨F, g, (ef.write (o := .ins C dx (putF f v xs)) (n' := .ins C (putD f d fs)) hj ⟨dx, _, upd_same, rpf_put vd rx⟩).held fun p hp => List.mem_cons_of_mem _ (List.mem_cons_of_mem _ hp)⟩⟩
theorem q_fldR {f : Str} (hv : EvR K tf ro ka P) (c : Cls K C) (nf : NoAttr K C f)
    (k : ∀ w k1, P w k1 → ∃ d k2 j fs, w = .val d ∧ EvD K te ro k1 (.val (.adr a)) k2 ∧ k2[j]? = some (a, .ins C fs) ∧ fs.length < 900 ∧ Gp K B F0 ta (u De) ro (k2.set j (a, .ins C (putD f d fs)))) : Gp K B F0 ta (tSeq (sFld K te tf f) u De) ro ka := g_fldR (De := { De with nx := u De }) hv c nf k

end

section
variable {K : PySem.W.Frag} {B B' F F' F0 : Hp} {ro ro' : Ro} {ka k1 k2 k3 kr : Cells} {ta : List (V × W)} {sg sg' : L2.St} {H H' : Hp} {te tf tg td ty tk tv : TE} {tr : TA} {tt tu : TT} {w x y z : W} {n m : Nd} {C dx a o d : Addr} {b : Bool} {P : L2.St → Hp → Prop} {De : Ends} {u : TS}
/-- what a slot holds, said otherwise -/
theorem En.reslot {i : Nat} {v : D} (e : En K B F0 ro ka ta sg H) (hi : ro[i]? = some (some (.val (.adr a)))) (hv : (V.ref a, W.val v) ∈ ta) : En K B F0 (ro.set i (some (.val v))) ka ta sg H := by
  obtain ⟨F, g, e⟩ := e
  refine ⟨F, g, { e with ln := by rw [List.length_set]; exact e.ln, sl := fun j w q => ?_ }⟩
  rw [List.getElem?_set] at q
  split at q
  · rename_i hij
    subst hij
    split at q
    · cases q
      obtain ⟨x, h1, h2⟩ := e.sl _ _ hi
      obtain rfl : x = V.ref a := h2
      exact ⟨_, h1, e.tm _ hv⟩
    · cases q
  · exact e.sl j w q
/-- an own dict, frozen -/
theorem Gp.frzK {i : Nat} {ds : List (Key × D)} (hi : ro[i]? = some (some (.val (.adr a)))) (hp : (kr ++ [(a, Nd.dic ds)]).Perm ka) (h : Gp K B F0 ta P (ro.set i (some (.val (.dic ds)))) kr) : Gp K B F0 ta P ro ka := fun sg H e =>
  h sg H ((En.reslot (e.perm hp).freeze_k hi List.mem_cons_self).held fun p q => List.mem_cons_of_mem _ q)
end
end DL
namespace DL
open PySem L2 PySem.W
/-! ### facts -/
theorem t0_ok {K : PySem.W.Frag} {p : Str × Option Str} {i : Nat} (h : fT0 p i K = true) : IsT0 K (He.dflAt p i K) := by
  unfold fT0 at h
  cases hl : K.lookup (He.dflAt p i K) with
  | none => rw [hl] at h; cases h
  | some ob =>
    rw [hl] at h
    obtain ⟨cls, dict, data, sl⟩ := ob
    cases cls with
    | type T =>
      cases data with
      | seq its n =>
        have h' : (decide (T = "tuple") && its.isEmpty) = true := h
        rw [Bool.and_eq_true, decide_eq_true_eq] at h'
        obtain ⟨rfl, h2⟩ := h'
        have : its = #[] := Array.isEmpty_iff.mp h2
        subst this
        exact ⟨_, n, hl, rfl, rfl⟩
      | _ => cases h
    | _ => cases h
theorem wok_t0 {K : PySem.W.Frag} {a : Addr} (h : IsT0 K a) (B F : Hp) : WOk K B F (.ref a) (.val (.tup [])) := by
  obtain ⟨o, n, h1, h2, h3⟩ := h
  exact ⟨a, [], rfl, .inr ⟨o, #[], n, h1, h2, h3, Nat.zero_le _, .nil⟩, rfl⟩
section
variable {P : Program} {w : World} {K : PySem.W.Frag} {mg : Str → Option Value} {base : Heap} {f : Addr} {fd : FuncData} {x qual : Str} {params : Arguments} {body : List Stmt} {scope : Scope} {ps N : List Str} {k j : Nat} {C : Ct} {dvs : List V}
end
end DL
namespace DL
open PySem L2 PySem.W
theorem hu1 {k : Nat} {A : Around} (r : Room k A) : A.units + 1 < cLine := by have := r.units; omega
end DL

namespace DL
open PySem L2 PySem.W
section
variable {K : PySem.W.Frag} {B F F0 : Hp} {ro : Ro} {ka k1 k2 : Cells} {ta : List (V × W)} {sg : L2.St} {H : Hp} {te tf : TE} {w : W} {n : Nd}
/-! ### is None -/
def isNonD : D → Bool
  | .non => true
  | _ => false
theorem isNonD_of {F : Hp} {d : D} {v : V} (h : Rp K F d v) : decide (v = .non) = isNonD d := by
  cases d with
  | non => rw [show v = .non from h]; rfl
  | bl b => rw [show v = .bl b from h]; rfl
  | int i => rw [show v = .int i from h]; rfl
  | str s => rw [show v = .str s from h]; rfl
  | ty n => rw [show v = .ty n from h]; rfl
  | adr a => rw [show v = .ref a from h]; rfl
  | tup ds => obtain ⟨a, _, rfl, _⟩ := h; rfl
  | lst ds => obtain ⟨a, _, rfl, _⟩ := h; rfl
  | dic ds => obtain ⟨a, _, rfl, _⟩ := h; rfl
  | dit ds => obtain ⟨a, _, rfl, _⟩ := h; rfl
  | din w ds => obtain ⟨a, _, rfl, _⟩ := h; rfl
  | ins C fs => obtain ⟨a, _, _, rfl, _⟩ := h; rfl
theorem En.isN {d : D} (e : En K B F0 ro ka ta sg H) {v : V} (h : (v, w) ∈ ta) (hw : w = .val d ∨ w = .vw d) : decide (v = .non) = isNonD d := by
  obtain ⟨F, _, e⟩ := e
  have := e.tm _ h
  rcases hw with rfl | rfl
  · exact isNonD_of (F := F) this
  · exact isNonD_of (F := uni B F) this
theorem ev_isN {d : D} (h : EvD K te ro ka w k1) (hw : w = .val d ∨ w = .vw d := by exact .inl rfl) : EvD K (tOp rIsN te (tC .non)) ro ka (.val (.bl (isNonD d))) k1 := fun B F0 ta sg H Q e q => h B F0 ta sg H _ e fun v H1 e1 =>
  ⟨rfl, by rw [e1.isN List.mem_cons_self hw]; exact q _ _ (e1.pop.push_imm fun _ => rfl)⟩
theorem ev_notN {d : D} (h : EvD K te ro ka w k1) (hw : w = .val d ∨ w = .vw d := by exact .inl rfl) : EvD K (tOp rNotN te (tC .non)) ro ka (.val (.bl (!isNonD d))) k1 := fun B F0 ta sg H Q e q => h B F0 ta sg H _ e fun v H1 e1 =>
  ⟨rfl, by rw [e1.isN List.mem_cons_self hw]; exact q _ _ (e1.pop.push_imm fun _ => rfl)⟩
theorem EvNR.toR {R : Nd → Cells → Prop} (h : EvNR K te ro ka R) : EvR K te ro ka (fun w k => ∃ a n k0, w = .val (.adr a) ∧ R n k0 ∧ k = k0 ++ [(a, n)]) := fun B F0 ta sg H Q e q =>
  h B F0 ta sg H Q e fun n k a H' r e1 => q _ _ (.ref a) H' ⟨a, n, k, rfl, r, rfl⟩ (e1.push_imm fun _ => rfl)
end
end DL

namespace DL
open PySem L2 PySem.W
theorem sqf_stD (b : Bool) (ss : List Str) : SqF b (stD ss) := .inr (List.all_eq_true.mpr fun d hd => by
  obtain ⟨s, _, rfl⟩ := List.mem_map.mp hd
  rfl)
end DL
namespace DL
open PySem L2 PySem.W
section
variable {K : PySem.W.Frag} {ro : Ro} {ka k1 k2 k3 : Cells} {te : TE} {tr : TA} {w : W} {E : XK}
/-- a method, its end told -/
theorem ev_methA {Cc : Ct} {ws : List W} {C : Addr} {m : Str} {fs : List (Str × D)} {b : Bool} {d : D} (kr : Cells) (h : EvD K te ro ka w k1) (l : Io k1 w C fs b) (hm : fs.lookup m = none) (ha : EvA K tr ro k1 ws (k2 ++ kr)) (hC : Cc (w :: ws) k2 (Rt d k3)) : EvD K (tMeth C m (spC K Cc) [] E te tr) ro ka (.val d) (k3 ++ kr) :=
  (evr_meth kr h l hm ha hC fun o k ho => ⟨d, ho.1⟩).d fun w' k ⟨d', k4, ho, e1, e2⟩ => by
    obtain ⟨h1, h2⟩ := ho
    cases h1
    exact ⟨e1, by rw [e2, h2]⟩
theorem at_t3 {d1 d2 d3 : D} {i j k : Nat} : AsT K (gTup K 3 (gCons (gName i) (gCons (gName j) (gCons (gName k) gNil)))) (.val (.tup [d1, d2, d3])) ro (((ro.set i (some (.val d1))).set j (some (.val d2))).set k (some (.val d3))) := at_tup rfl (al_cons at_n (al_cons at_n (al_cons at_n al_nil)))
end
end DL
namespace DL
open PySem L2 PySem.W
/-! ### tables with text keys -/
section
variable {β : Type} {f : β → D}
def tbD (f : β → D) (xs : List (Str × β)) : List (Key × D) := xs.map fun p => (.inr p.1, f p.2)
abbrev keysT (xs : List (Str × β)) : List Str := xs.map (·.1)
theorem tbD_len (xs : List (Str × β)) : (tbD f xs).length = xs.length := List.length_map _
theorem tbD_app (xs ys : List (Str × β)) : tbD f (xs ++ ys) = tbD f xs ++ tbD f ys := List.map_append
theorem getT_isSome {κ α : Type} [DecidableEq κ] (kvs : List (κ × α)) (k : κ) : (getT kvs k).isSome = hasT kvs k := by
  unfold getT hasT
  rw [Option.isSome_map]
  induction kvs with
  | nil => rfl
  | cons x l ih =>
    rw [List.find?_cons, List.any_cons]
    cases h : decide (x.1 = k) with
    | true => rfl
    | false => rw [ih]; rfl
theorem tb_has {xs : List (Str × β)} {s : Str} : hasT (tbD f xs) (.inr s) = decide (s ∈ keysT xs) := by
  unfold hasT tbD
  rw [List.any_map, Bool.eq_iff_iff, List.any_eq_true, decide_eq_true_eq, List.mem_map]
  constructor
  · rintro ⟨r, h1, h2⟩
    exact ⟨r, h1, Sum.inr.inj (of_decide_eq_true h2)⟩
  · rintro ⟨r, h1, h2⟩
    exact ⟨r, h1, decide_eq_true (congrArg Sum.inr h2)⟩
theorem tb_in (xs : List (Str × β)) (s : Str) : (getT (tbD f xs) (.inr s)).isSome = decide (s ∈ keysT xs) := (getT_isSome _ _).trans tb_has
theorem tb_put {xs : List (Str × β)} {s : Str} {v : β} (h : ¬ s ∈ keysT xs) : putT (tbD f xs) (.inr s) (f v) = tbD f (xs ++ [(s, v)]) := by
  unfold putT
  rw [if_neg (by rw [tb_has, decide_eq_true_eq]; exact h), tbD_app]
  rfl
theorem tb_get {xs : List (Str × β)} (hn : (keysT xs).Nodup) {s : Str} {v : β} (h : (s, v) ∈ xs) : getT (tbD f xs) (.inr s) = some (f v) := by
  induction xs with
  | nil => cases h
  | cons x l ih =>
    have hn2 := List.nodup_cons.mp hn
    unfold getT tbD
    rw [List.map_cons, List.find?_cons]
    rcases List.mem_cons.mp h with e | h
    · rw [← e, decide_eq_true rfl]
      rfl
    · have ne : ¬ (Sum.inr x.1 : Int ⊕ Str) = .inr s := fun z => hn2.1 (by show x.1 ∈ _; rw [Sum.inr.inj z]; exact List.mem_map.mpr ⟨_, h, rfl⟩)
      rw [decide_eq_false ne]
      exact ih hn2.2 h
theorem keys_app (xs ys : List (Str × β)) : keysT (xs ++ ys) = keysT xs ++ keysT ys := List.map_append
theorem key_has {xs : List (Str × β)} {s : Str} (h : s ∈ keysT xs) : ∃ v, (s, v) ∈ xs := by
  obtain ⟨p, hp, rfl⟩ := List.mem_map.mp h
  exact ⟨p.2, hp⟩
end
end DL
namespace DL
open PySem L2 PySem.W
section
variable {K : PySem.W.Frag} {ro : Ro} {ka k1 : Cells} {te tf : TE} {P : W → Cells → Prop} {R : Nd → Cells → Prop}
end
end DL
namespace DL
open PySem L2 PySem.W
section
variable {K : PySem.W.Frag} {B F0 : Hp} {ro : Ro} {ka k1 : Cells} {ta : List (V × W)} {te : TE} {w : W} {b : Bool} {R : Nd → Cells → Prop} {De : Ends} {u : TS}
/-- the texts of a list or tuple -/
theorem ei_strsL {t b : Bool} {ss : List Str} (h : EvD K te ro ka w k1) (l : Lk k1 w t (stD ss) b) : EvI K (iSeq K te) ro ka (ss.map fun s => W.val (.str s)) (Stay w (stD ss)) k1 := by
  have e : (stD ss).map (part b) = ss.map fun s => W.val (.str s) := by
    unfold stD
    rw [List.map_map]
    exact List.map_congr_left fun s _ => by cases b <;> rfl
  have := ei_seq h l
  rwa [e] at this
theorem EvNR.lstD {ds : List D} (h : EvNR K te ro ka R) (hR : ∀ n k, R n k → n = .lst ds ∧ k = k1) : EvD K te ro ka (.val (.lst ds)) k1 := fun B F0 ta sg H Q e q => h B F0 ta sg H Q e fun n k a H1 r e1 => by
  obtain ⟨rfl, rfl⟩ := hR n k r
  exact q _ _ e1.freeze_l
end
end DL
namespace DL
open PySem L2 PySem.W
section
variable {K : PySem.W.Frag} {ro : Ro} {ka k1 k2 : Cells} {ty td : TE} {P : W → Cells → Prop}
end
end DL
namespace DL
open PySem L2 PySem.W
section
variable {K : PySem.W.Frag} {ro : Ro} {ka k1 : Cells} {te tf : TE} {n : Nd} {y : W} {E : XK}
end
end DL

/-! ED: d.get(k) (own work). -/
namespace DL
open PySem L2 PySem.W
section
variable {K : PySem.W.Frag} {ro : Ro} {ka k1 k2 : Cells} {td ty : TE} {w : W} {b : Bool}
/-- what a dict tells of a text: None where it has none -/
def getD? (ds : List (Key × D)) (s : Str) : D := (getT ds (.inr s)).getD .non
end
end DL

/-! EE: try with any number of except clauses, each with or without a name (own work). -/
namespace DL
open PySem L2 PySem.W PyProof.Rows

/-- the exception at a has come down in X; but for it the state is as σ, H tell -/
def Down (X : Cx) (pins : List (Addr × Obj)) (a : Addr) (cls : Value) (d : Option Addr) (σ : L2.St) (H : Hp) (s : Shared) : Prop :=
  ∃ (B : Heap) (s0 : Shared), L2.Inv X pins σ H s0 ∧ (∀ b o, s0.heap.get? b = some o → b ∉ frs X.stack → B.get? b = some o) ∧ s0.heap.UpToSlots s.heap ∧
    HandSPX.FlyingZ B (X.env :: X.outer) a (Zc cls d) s.heap ∧ H a = none ∧ s.os = s0.os ∧ AllBare s.gens
section
variable {X : Cx} {pins : List (Addr × Obj)} {a : Addr} {cls : Value} {d : Option Addr} {σ : L2.St} {H : Hp} {s : Shared}
theorem Down.inv (z : Down X pins a cls d σ H s) : L2.Inv X pins σ H s :=
  let ⟨_, _, I, nb, up, fl, _, os, ag⟩ := z
  I.landed nb fl.1 up os ag
theorem Down.obj (z : Down X pins a cls d σ H s) : ∃ (oe : Obj) (vs : Array Value), s.heap.get? a = some oe ∧ Zc cls d oe ∧ oe.data = .fields vs :=
  let ⟨_, _, _, _, _, fl, _⟩ := z
  let ⟨oe, vs, h1, h2, h3⟩ := fl.there
  ⟨oe, vs, h1, h2, h3⟩
/-- no frame's slots stand there -/
theorem Down.off (z : Down X pins a cls d σ H s) : a ∉ frs (X.env :: X.outer) := fun hm => by
  obtain ⟨oe, vs, h1, _, h3⟩ := z.obj
  obtain ⟨_, _, _, _, _, fl, _⟩ := z
  obtain ⟨_, o, h4, h5⟩ := fl.2.2.1.mem hm
  rw [h1] at h4
  cases h4
  exact h5 _ h3
/-- the state that an except suite finds -/
theorem Down.within (z : Down X pins a cls d σ H s) (hf : X.env.frame = some X.env.locals) : ∃ oe vs, oe.data = .fields vs ∧ Zc cls d oe ∧ s.heap.get? a = some oe ∧ L2.Inv (X.suite a ((a, oe) :: (X.pn ++ pins))) [] σ H s := by
  obtain ⟨oe, vs, h1, h2, h3⟩ := z.obj
  have off := z.off
  have na : H a = none := let ⟨_, _, _, _, _, _, na, _⟩ := z; na
  refine ⟨oe, vs, h3, h2, h1, z.inv.suite h1 h3 na (fun e => off ?_) fun hm => off ?_⟩
  · exact List.mem_filterMap.mpr ⟨X.env, List.mem_cons_self, by rw [hf, e]⟩
  · obtain ⟨e, he, q⟩ := List.mem_filterMap.mp hm
    exact List.mem_filterMap.mpr ⟨e, List.mem_cons_of_mem _ he, q⟩
theorem Down.again {M : Model} {A : Around} {E : Value → Shared → Prop} {Q : Unit → Shared → Prop} (z : Down X pins a cls d σ H s) (k : ∀ s', Down X pins a cls d σ H s' → Q () s') : wpAny M A (setFlight (.ref a) none) Q E s := by
  obtain ⟨B, s0, I, nb, up, fl, na, os, ag⟩ := z
  exact HandSPX.lands_againZ fl fun h' fl' up' => k _ ⟨B, s0, I, nb, up.trans up', fl', na, os, ag⟩
/-- no clause takes it -/
theorem Down.pass {W : WX} {Q : Flow → Shared → Prop} (z : Down X pins a cls d σ H s) (hs : X.stack = X.env :: X.outer) (hf : X.env.frame = some X.env.locals) (tk : Takes X W) (w : W cls d σ H) : wpAny (model X.prog X.w) X.A (handleBy (.ref a) X.env []) Q X.xe s := by
  obtain ⟨B, s0, I, nb, up, fl, na, os, ag⟩ := z
  obtain ⟨oe, vs, T, oT, ts, h1, h2, h3, h4, _⟩ := id fl.2.2.2
  have out : wpAny (model X.prog X.w) X.A (setFlight (.ref a) X.env.frame) (fun _ s4 => wpAny (model X.prog X.w) X.A (throw (.ref a) : Sem Flow) Q X.xe s4) X.xe s := by
    rw [hf]
    exact HandSPX.setFlight_upZ fl fun h' held up' => wpAny_throw (tk _ _ ⟨a, B, s0, pins, σ, H, cls, d, rfl, I, nb, up.trans up', .inr (.inr (hs ▸ held)), na, os, ag, w⟩)
  apply wpAny_handleBy_nil
  unfold PySem.passOn
  refine wpAny_bind (wpAny_field h1 h3 h4 ?_)
  have ne : ¬ (Value.ref T == Value.none) = true := by simp
  rw [if_neg ne]
  first
    | exact wpAny_bind (wpAny_pure (wpAny_bind out))
    | exact wpAny_bind out
end
/-- a clause: its class, the slot of its name, its suite -/
abbrev Cla := Value × Option Nat × (Addr → Value → Option Addr → TS)
/-- where a suite ends: its name is gone -/
def goneE (D : Ends) : Option Nat → Ends
  | none => D
  | some i => { nx := fun σ H => D.nx (σ.set i none) H, rt := D.rt, bk := fun σ H => D.bk (σ.set i none) H, ct := fun σ H => D.ct (σ.set i none) H }
def nameS (σ : L2.St) (a : Addr) : Option Nat → L2.St
  | none => σ
  | some i => σ.set i (some (.ref a))
/-- what one clause wishes: that its class tells whether it takes the exception; if so its suite's wish, else W -/
def oneCla (K : PySem.W.Frag) (D : Ends) (c : Cla) (W : WX) : WX := fun cls d σ H =>
  (exmOne K cls c.1 = some true ∧ ∀ a, H a = none → c.2.2 a cls d (goneE D c.2.1) (nameS σ a c.2.1) H) ∨ (exmOne K cls c.1 = some false ∧ W cls d σ H)
/-- these clauses deal with whatever W lets come down -/
def Deals (X : Cx) (D : Ends) (hds : List ExceptHandler) (W : WX) : Prop := ∀ (pins : List (Addr × Obj)) (a : Addr) (cls : Value) (d : Option Addr) (σ : L2.St) (H : Hp) (s : Shared),
  Down X pins a cls d σ H s → W cls d σ H → wpAny (model X.prog X.w) X.A (handleBy (.ref a) X.env hds) (SP X pins D) X.xe s
/-- a suite keeps its wish -/
def SuiteOk (X : Cx) (b0 : Stmt) (suite : List Stmt) (ts : Addr → Value → Option Addr → TS) : Prop :=
  ∀ (a : Addr) (oe : Obj) (cls : Value) (d : Option Addr) (pn : List (Addr × Obj)), Zc cls d oe → (∃ vs, oe.data = .fields vs) → PSs (X.suite a ((a, oe) :: pn)) (b0 :: suite) (ts a cls d)
section
variable {X : Cx} {pins : List (Addr × Obj)} {a : Addr} {cls : Value} {d : Option Addr} {σ : L2.St} {H : Hp} {s : Shared} {D : Ends} {Wout W : WX} {f : Flow}
theorem Deals.nil (hs : X.stack = X.env :: X.outer) (hf : X.env.frame = some X.env.locals) (tk : Takes X Wout) : Deals X D [] Wout := fun _ _ _ _ _ _ _ z w => z.pass hs hf tk w
/-- the end of a suite without a name, seen from outside -/
theorem SP.outward {q0 : List (Addr × Obj)} {X' : Cx} (e : SP X' q0 D f s) (k : ∀ σ1 H1, L2.Inv X' q0 σ1 H1 s → L2.Inv X pins σ1 H1 s) : SP X pins D f s := by
  rcases f with _ | _ | _ | u
  · obtain ⟨σ1, H1, J, y⟩ := e
    exact ⟨σ1, H1, k _ _ J, y⟩
  · obtain ⟨σ1, H1, J, y⟩ := e
    exact ⟨σ1, H1, k _ _ J, y⟩
  · obtain ⟨σ1, H1, J, y⟩ := e
    exact ⟨σ1, H1, k _ _ J, y⟩
  · obtain ⟨v, σ1, H1, J, y⟩ := e
    exact ⟨v, σ1, H1, k _ _ J, y⟩
/-- a clause's class, looked up where the suite will stand -/
theorem Down.class_read (z : Down X pins a cls d σ H s) (hf : X.env.frame = some X.env.locals) {x : Str} {c : Value} {p : Pos} (hc : Names X x c) {Q : Value → Shared → Prop} {E : Value → Shared → Prop} (k : Q c s) :
    wpAny (model X.prog X.w) (X.A.mark (some (.ref a))) (eval (.Name x p) X.env) Q E s := by
  obtain ⟨oe, vs, _, _, _, S⟩ := z.within hf
  obtain ⟨g, nd, m | ⟨m, v, nn⟩⟩ := hc
  · exact ld_glob (X := X.suite a ((a, oe) :: (X.pn ++ pins))) S g m k nd
  · exact ld_blt (X := X.suite a ((a, oe) :: (X.pn ++ pins))) S g m v k nn nd
/-- does the class at c take it? -/
theorem Down.asked (z : Down X pins a cls d σ H s) {c : Value} {b : Bool} (h : exmOne X.K cls c = some b) : PySem.W.Looks (model X.prog X.w) s.heap (excMatches (.ref a) c) b :=
  PySem.W.exm_one z.inv.kIn (fun A Q E s' kp q => by
    obtain ⟨oe, vs, at_, zc, _⟩ := z.obj
    exact wpAny_typeOf_ref (kp _ _ at_) (zc.1.symm ▸ q)) h
theorem Deals.plain (hf : X.env.frame = some X.env.locals) {x : Str} {c : Value} {ts : Addr → Value → Option Addr → TS} {b0 : Stmt} {suite : List Stmt} {p q : Pos} {hds : List ExceptHandler} (hc : Names X x c) (ok : SuiteOk X b0 suite ts) (rest : Deals X D hds W) :
    Deals X D (.ExceptHandler (some (.Name x p)) none (b0 :: suite) q :: hds) (oneCla X.K D (c, none, ts) W) := fun pins a cls d σ H s z w => by
  refine wpAny_handleBy_cons (codeAny_handlers_test (z.class_read hf hc ?_)) (fun e => by cases e)
  rcases w with ⟨hb, w⟩ | ⟨hb, w⟩ <;> refine (z.asked hb).here ?_
  · refine codeAny_handlers_suite (z.again fun s1 z1 => ?_)
    obtain ⟨oe, vs, dat, zc, _, S⟩ := z1.within hf
    have na : H a = none := z.elim fun _ r => r.elim fun _ r => r.2.2.2.2.1
    exact wpAny_mono ((ok a oe cls d (X.pn ++ pins) zc ⟨_, dat⟩).run [] s1 σ H D S (w a na)) (fun g s2 e => SP.outward e fun _ _ J => J.unsuite z.inv.ok) fun _ _ z => z.elim
  · exact rest pins a cls d σ H s z w
end
section
variable {X : Cx} {body : List Stmt} {h0 : ExceptHandler} {hds : List ExceptHandler} {l : List Cla} {pos : Pos} {tb : WX → TS} {Wout : WX}
end
end DL

/-! EF: what several clauses do with an exception, by data (own work). -/
namespace DL
open PySem L2 PySem.W
/-- of the clauses l the one with oi, ts takes an exception of C1 -/
inductive Hit (K : PySem.W.Frag) (C1 : Addr) : List Cla → Option Nat → (Addr → Value → Option Addr → TS) → Prop
  | here {c : Value} {oi : Option Nat} {ts : Addr → Value → Option Addr → TS} {r : List Cla} (h : exmOne K (.ref C1) c = some true) : Hit K C1 ((c, oi, ts) :: r) oi ts
  | next {c : Value} {oi oj : Option Nat} {ts us : Addr → Value → Option Addr → TS} {r : List Cla} (h : exmOne K (.ref C1) c = some false) (k : Hit K C1 r oi ts) : Hit K C1 ((c, oj, us) :: r) oi ts
section
variable {K : PySem.W.Frag} {B F0 : Hp} {ro : Ro} {ka k1 k2 k3 kr : Cells} {ta : List (V × W)} {sg : L2.St} {H : Hp} {te tf : TE} {tr : TA} {C C1 : Addr} {gs : List (Str × D)} {E : XK} {De De' : Ends} {dx : Option Addr} {l : List Cla} {oi : Option Nat} {ts : Addr → Value → Option Addr → TS} {Wout : WX} {u : TS}
end
end DL

/-! EG: enumerate of lists (own work). -/
namespace DL
open PySem L2 PySem.W
section
variable {K : PySem.W.Frag} {ro : Ro} {ka k1 : Cells} {te : TE} {w : W}
end
end DL

namespace DL
open PySem L2 PySem.W
end DL

/-! EH: for loops of the hand layer out of the library's Goes: what an iterator hands out, told once, serves every caller (own work). -/
namespace DL
open PySem L2 PySem.W PyProof.Rows
end DL

/-! EI: nothing of its own (kept for the order of the parts). -/

/-! EJ: for i, x in enumerate(t), t a tuple: the library's GoesN over its Draws.tuple, told for the hand layer (own work). -/
namespace DL
open PySem L2 PySem.W PyProof.Rows
/-- what stands at turn i: the count, the iterator; the three lie apart -/
structure EnT (a e it : Addr) (i : Nat) (h : Heap) : Prop where
  en : ∃ old, IsEnum h e it (0 + (i : Int)) old
  itr : h.IsTupleIter it a i
  apart : e ≠ it ∧ a ≠ it ∧ a ≠ e
namespace EnT
variable {a e it : Addr} {i : Nat} {h : Heap}
theorem cells (z : EnT a e it i h) : ∀ b ∈ [e, it], ∃ o, h.get? b = some o ∧ ∀ v, o.data ≠ .cell v := by
  obtain ⟨⟨_, x⟩, ⟨o, y, _, d⟩, _⟩ := z
  simp only [List.forall_mem_cons, List.not_mem_nil, false_imp_iff, implies_true, and_true]
  exact ⟨⟨_, x, fun _ c => nomatch c⟩, o, y, fun _ c => nomatch d.symm.trans c⟩
theorem le (z : EnT a e it i h) {b T : Addr} (hb : b ∈ [e, it]) (hT : h.objs.size ≤ T) : b ≠ T := fun q =>
  let ⟨_, y, _⟩ := z.cells b hb
  Nat.lt_irrefl _ (Nat.lt_of_lt_of_le (q ▸ Heap.lt_size y) hT)
theorem out (z : EnT a e it i h) : e ∉ [it, a] := by
  have := z.apart
  simp only [List.mem_cons, List.not_mem_nil, or_false, not_or]
  exact ⟨this.1, this.2.2.symm⟩
end EnT
end DL

/-! EK: enumerate of lists and tuples alike (own work). -/
namespace DL
open PySem L2 PySem.W
section
variable {K : PySem.W.Frag} {ro : Ro} {ka k1 : Cells} {te : TE} {w : W}
end
end DL
namespace DL
open PySem L2 PySem.W
section
variable {K : PySem.W.Frag} {B F0 : Hp} {ro : Ro} {ka : Cells} {ta : List (V × W)} {De : Ends} {t u : TS}
/-- a statement whose ends meet under a word -/
theorem q_meet (Inv : Ro → Cells → Prop) (h : ∀ nx, (∀ ro2 ka2, Inv ro2 ka2 → Gp K B F0 ta nx ro2 ka2) → Gp K B F0 ta (t { De with nx := nx }) ro ka) (k : ∀ ro2 ka2, Inv ro2 ka2 → Gp K B F0 ta (u De) ro2 ka2) : Gp K B F0 ta (tSeq t u De) ro ka := h _ k
theorem Gp.up {ta' : List (V × W)} {P : L2.St → Hp → Prop} (h : Gp K B F0 ta P ro ka) (s : ∀ p ∈ ta, p ∈ ta') : Gp K B F0 ta' P ro ka := fun sg H e => h sg H (e.held s)
end
section
variable {X : Cx}
end
/-- w holds the texts ys: a list or tuple of them, or a dict with these keys -/
inductive HasS (ka : Cells) : W → List Str → Prop where
  | sq {w : W} {t b : Bool} {ys : List Str} (l : Lk ka w t (stD ys) b) : HasS ka w ys
  | dc {w : W} {ds : List (Key × D)} {b : Bool} {ys : List Str} (l : Dk ka w ds b) (h : ∀ s, (getT ds (.inr s)).isSome = decide (s ∈ ys)) : HasS ka w ys
section
variable {K : PySem.W.Frag} {ro : Ro} {ka k1 k2 : Cells} {te tf : TE} {y : W}
end
end DL

/-! EL: cells frozen for the length of one expression, then cells again (own work). -/
namespace DL
open PySem L2 PySem.W
/-! ### data that reads no cell: numbers, texts, tuples of these -/
mutual
def tI : D → Bool
  | .lst _ => false | .dic _ => false | .dit _ => false | .ins _ _ => false | .din _ _ => false
  | .tup xs => tIL xs
  | _ => true
def tIL : List D → Bool
  | [] => true
  | d :: ds => tI d && tIL ds
end
section
variable {K : PySem.W.Frag} {B B' F F' F0 H H' : Hp} {ro ro' : Ro} {ka k1 k2 k3 kr kt : Cells} {ta tb : List (V × W)} {sg sg' : L2.St} {te tf : TE} {tt : TT} {w x y : W} {n : Nd} {a : Addr} {C : Addr}
/-- the heap F with the cells kt of H put in -/
def thF (F H : Hp) (kt : Cells) : Hp := fun a => if a ∈ kt.map (·.1) then H a else F a
theorem thF_in {a : Addr} (h : a ∈ kt.map (·.1)) : thF F H kt a = H a := if_pos h
theorem thF_out {a : Addr} (h : a ∉ kt.map (·.1)) : thF F H kt a = F a := if_neg h
theorem thF_sub (h : ∀ p ∈ kt, F p.1 = none) : Sub F (thF F H kt) := fun a o e => by
  rw [thF_out fun m => ?_]
  · exact e
  · obtain ⟨p, hp, rfl⟩ := List.mem_map.mp m
    rw [h p hp] at e
    cases e
/-- cells of the three kinds -/
def ndK : Nd → Bool
  | .lst _ => true | .dic _ => true | .ins _ _ => true | .din _ _ => true
  | _ => false
theorem ndok_kind {a : Addr} (h : NdOk K F H a n) (k : ndK n = true) : ∃ o, H a = some o ∧ isfz o = false ∧ ∀ xs, o ≠ .tup xs := by
  cases n with
  | lst ds => obtain ⟨xs, e, _⟩ := h; exact ⟨_, e, rfl, fun _ z => nomatch z⟩
  | dic ds => obtain ⟨xs, e, _⟩ := h; exact ⟨_, e, rfl, fun _ z => nomatch z⟩
  | ins C ds => obtain ⟨dx, xs, e, _⟩ := h; exact ⟨_, e, rfl, fun _ z => nomatch z⟩
  | din w ds => obtain ⟨xs, e, _⟩ := h; exact ⟨_, e, rfl, fun _ z => by unfold DnO at z; cases z⟩
  | _ => cases k
/-- what is known of cells that are put in -/
structure Thw (K : PySem.W.Frag) (F H : Hp) (kt : Cells) : Prop where
  no : ∀ p ∈ kt, F p.1 = none
  ok : ∀ p ∈ kt, NdOk K F H p.1 p.2
  kd : ∀ p ∈ kt, ndK p.2 = true
theorem Thw.gr (t : Thw K F H kt) (hB : ∀ p ∈ kt, B p.1 = none) : Gr B F (thF F H kt) := ⟨thF_sub t.no, fun a h1 h2 => by
  rw [thF_out fun m => ?_]
  · exact h1
  · obtain ⟨p, hp, rfl⟩ := List.mem_map.mp m
    exact h2 (hB p hp)⟩
theorem EnF.thw (e : EnF K B F ro (k1 ++ kt) ta sg H) (kd : ∀ p ∈ kt, ndK p.2 = true) : Thw K F H kt := ⟨fun p hp => (e.ce p (List.mem_append_right _ hp)).1, fun p hp => (e.ce p (List.mem_append_right _ hp)).2.2, kd⟩
theorem EnF.thB (e : EnF K B F ro (k1 ++ kt) ta sg H) : ∀ p ∈ kt, B p.1 = none := fun p hp => (e.ce p (List.mem_append_right _ hp)).2.1
theorem EnF.apart (e : EnF K B F ro (k1 ++ kt) ta sg H) {p : Addr × Nd} (hp : p ∈ k1) : p.1 ∉ kt.map (·.1) := fun m => by
  have nd := e.nd
  rw [List.map_append, List.nodup_append] at nd
  exact nd.2.2 p.1 (List.mem_map.mpr ⟨p, hp, rfl⟩) p.1 m rfl
/-- the cells kt go into what is frozen -/
theorem EnF.th_in (e : EnF K B F ro (k1 ++ kt) ta sg H) (kd : ∀ p ∈ kt, ndK p.2 = true) : EnF K (thF B H kt) (thF F H kt) ro k1 ta sg H := by
  have t := e.thw kd
  have hB := e.thB
  have gr := t.gr hB
  have sB : Sub B (thF B H kt) := thF_sub hB
  have nz : Nz (thF F H kt) := fun a u h => by
    by_cases m : a ∈ kt.map (·.1)
    · rw [thF_in m] at h
      obtain ⟨p, hp, rfl⟩ := List.mem_map.mp m
      obtain ⟨o, ho, hz, _⟩ := ndok_kind (t.ok p hp) (kd p hp)
      rw [ho] at h
      cases h
      exact hz
    · rw [thF_out m] at h
      exact e.nz a u h
  refine ⟨nz, fun a u h => ?_, fun a u h => ?_, ?_, fun p hp => ?_, e.ln, fun i w h => ?_, fun p hp => wok_subB nz sB (wok_gr e.nz gr (e.tm p hp))⟩
  · by_cases m : a ∈ kt.map (·.1)
    · rw [thF_in m] at h
      exact .inl h
    · rw [thF_out m] at h
      exact e.fz a u h
  · by_cases m : a ∈ kt.map (·.1)
    · rw [thF_in m] at h
      exact h
    · rw [thF_out m] at h
      exact e.fr a u h
  · have nd := e.nd
    rw [List.map_append, List.nodup_append] at nd
    exact nd.1
  · obtain ⟨c1, c2, c3⟩ := e.ce p (List.mem_append_left _ hp)
    have m := e.apart hp
    exact ⟨by rw [thF_out m]; exact c1, by rw [thF_out m]; exact c2, ndok_gr e.nz gr c3⟩
  · obtain ⟨v, h1, h2⟩ := e.sl i w h
    exact ⟨v, h1, wok_subB nz sB (wok_gr e.nz gr h2)⟩
/-! ### data that reads no cell stays without the cells -/
section
variable (no : ∀ b ∈ kt.map (·.1), ∃ o, F' b = some o ∧ isfz o = false ∧ ∀ xs, o ≠ .tup xs)
include no
theorem sqt_off {b : Addr} {xs : List V} (h : SqT K F' b xs) : SqT K (off F' kt) b xs := by
  rcases h with h | h
  · have m : b ∉ kt.map (·.1) := fun m => by
      obtain ⟨o, h1, h2, h3⟩ := no b m
      rcases h with h | ⟨z, h⟩
      · rw [h1] at h
        exact h3 _ (Option.some.inj h)
      · rw [h1] at h
        cases h
        cases h2
    exact .inl (h.elim (fun q => .inl (by rw [off_out m]; exact q)) fun ⟨z, q⟩ => .inr ⟨z, by rw [off_out m]; exact q⟩)
  · exact .inr h
mutual
theorem rp_off : ∀ (d : D) (v : V), tI d = true → Rp K F' d v → Rp K (off F' kt) d v
  | .non, v, _, h => h
  | .bl _, v, _, h => h
  | .int _, v, _, h => h
  | .str _, v, _, h => h
  | .ty _, v, _, h => h
  | .adr _, v, _, h => h
  | .tup ds, v, t, h => by
    obtain ⟨b, xs, e, h1, h2⟩ := h
    exact ⟨b, xs, e, sqt_off no h1, rpl_off ds xs t h2⟩
theorem rpl_off : ∀ (ds : List D) (xs : List V), tIL ds = true → RpL K F' ds xs → RpL K (off F' kt) ds xs
  | [], xs, _, h => h
  | d :: ds, xs, t, h => by
    obtain ⟨x, ys, e, h1, h2⟩ := h
    rw [tIL, Bool.and_eq_true] at t
    exact ⟨x, ys, e, rp_off d x t.1 h1, rpl_off ds ys t.2 h2⟩
end
end
end
/-! ### what a cell stands for -/
/-- the cell at a, with what stands behind it among kt, is the data d -/
def FrzD (K : PySem.W.Frag) (kt : Cells) (a : Addr) (d : D) : Prop := ∀ F H, Nz F → Thw K F H kt → Rp K (thF F H kt) d (.ref a)
/-- the same, or a cell and what it stands for -/
inductive FzR (K : PySem.W.Frag) (kt : Cells) : D → D → Prop where
  | s (d : D) : FzR K kt d d
  | a {a : Addr} {d : D} (h : FrzD K kt a d) : FzR K kt (.adr a) d
section
variable {K : PySem.W.Frag} {F H : Hp} {kt : Cells} {a : Addr} {C : Addr}
theorem FzR.rp {d e : D} {v : V} (z : FzR K kt d e) (nz : Nz F) (t : Thw K F H kt) (h : Rp K F d v) : Rp K (thF F H kt) e v := by
  cases z with
  | s => exact Rp.mono (thF_sub t.no).exz nz _ _ h
  | a q =>
    obtain rfl : v = _ := h
    exact q F H nz t
def FzL (K : PySem.W.Frag) (kt : Cells) : List D → List D → Prop
  | [], es => es = []
  | d :: ds, es => ∃ e r, es = e :: r ∧ FzR K kt d e ∧ FzL K kt ds r
theorem FzL.same : ∀ ds : List D, FzL K kt ds ds
  | [] => rfl
  | d :: ds => ⟨d, ds, rfl, .s d, FzL.same ds⟩
theorem FzL.rp (nz : Nz F) (t : Thw K F H kt) : ∀ {ds es : List D} {xs : List V}, FzL K kt ds es → RpL K F ds xs → RpL K (thF F H kt) es xs
  | [], es, xs, z, h => by
    obtain rfl : es = [] := z
    exact h
  | d :: ds, es, xs, ⟨e, r, e1, z1, z2⟩, ⟨x, ys, e2, h1, h2⟩ => by
    subst e1
    exact ⟨x, ys, e2, z1.rp nz t h1, FzL.rp nz t z2 h2⟩
def FzF (K : PySem.W.Frag) (kt : Cells) : List (Str × D) → List (Str × D) → Prop
  | [], es => es = []
  | (k, d) :: ds, es => ∃ e r, es = (k, e) :: r ∧ FzR K kt d e ∧ FzF K kt ds r
theorem FzF.rp (nz : Nz F) (t : Thw K F H kt) : ∀ {ds es : List (Str × D)} {xs : List (Str × V)}, FzF K kt ds es → RpF K F ds xs → RpF K (thF F H kt) es xs
  | [], es, xs, z, h => by
    obtain rfl : es = [] := z
    exact h
  | (k, d) :: ds, es, xs, ⟨e, r, e1, z1, z2⟩, ⟨x, ys, e2, h1, h2⟩ => by
    subst e1
    exact ⟨x, ys, e2, z1.rp nz t h1, FzF.rp nz t z2 h2⟩
theorem frz_l {ds es : List D} (m : (a, Nd.lst ds) ∈ kt) (z : FzL K kt ds es) : FrzD K kt a (.lst es) := fun F H nz t => by
  obtain ⟨xs, h, r⟩ := t.ok _ m
  exact ⟨a, xs, rfl, .inl (by rw [thF_in (List.mem_map.mpr ⟨_, m, rfl⟩)]; exact h), z.rp nz t r⟩
theorem frz_d {ds : List (Key × D)} (m : (a, Nd.dic ds) ∈ kt) : FrzD K kt a (.dic ds) := fun F H nz t => by
  obtain ⟨xs, h, r⟩ := t.ok _ m
  exact ⟨a, xs, rfl, .inl (by rw [thF_in (List.mem_map.mpr ⟨_, m, rfl⟩)]; exact h), RpK.mono (thF_sub t.no).exz nz _ _ r⟩
theorem frz_i {ds es : List (Str × D)} (m : (a, Nd.ins C ds) ∈ kt) (z : FzF K kt ds es) : FrzD K kt a (.ins C es) := fun F H nz t => by
  obtain ⟨dx, xs, h, r⟩ := t.ok _ m
  exact ⟨a, dx, xs, rfl, .inl (by rw [thF_in (List.mem_map.mpr ⟨_, m, rfl⟩)]; exact h), z.rp nz t r⟩
end
/-- the slots ro' are those of ro, but for cells that are told as what they stand for -/
structure RoT (K : PySem.W.Frag) (kt : Cells) (ro ro' : Ro) : Prop where
  len : ro'.length = ro.length
  at' : ∀ (i : Nat) (w : W), ro'[i]? = some (some w) → ro[i]? = some (some w) ∨ ∃ (a : Addr) (d : D), w = W.val d ∧ ro[i]? = some (some (W.val (.adr a))) ∧ FrzD K kt a d
section
variable {K : PySem.W.Frag} {B F F0 H H' : Hp} {ro ro' : Ro} {ka k1 k2 k3 kr kt : Cells} {ta tb : List (V × W)} {sg sg' : L2.St} {te tf : TE} {tt : TT} {w x y : W} {n : Nd} {a : Addr} {d : D}
theorem RoT.refl : RoT K kt ro ro := ⟨rfl, fun _ _ h => .inl h⟩
theorem RoT.set {i : Nat} (r : RoT K kt ro ro') (hi : ro[i]? = some (some (.val (.adr a)))) (z : FrzD K kt a d) : RoT K kt ro (ro'.set i (some (.val d))) := ⟨by rw [List.length_set]; exact r.len, fun j w h => by
  rw [List.getElem?_set] at h
  split at h
  · rename_i e
    subst e
    split at h
    · cases h
      exact .inr ⟨a, d, rfl, hi, z⟩
    · cases h
  · exact r.at' j w h⟩
theorem EnF.th_ro (e : EnF K B F ro (k1 ++ kt) ta sg H) (kd : ∀ p ∈ kt, ndK p.2 = true) (r : RoT K kt ro ro') : EnF K (thF B H kt) (thF F H kt) ro' k1 ta sg H := by
  have e1 := e.th_in kd
  refine { e1 with ln := e1.ln.trans r.len.symm, sl := fun i w h => ?_ }
  rcases r.at' i w h with h | ⟨a, d, rfl, h, z⟩
  · exact e1.sl i w h
  · obtain ⟨v, h1, h2⟩ := e1.sl i _ h
    obtain rfl : v = .ref a := h2
    exact ⟨_, h1, z F H e.nz (e.thw kd)⟩
end
end DL

/-! EM: in and bool by an own class's methods; d.pop(k) (own work). -/
namespace DL
open PySem PySem.Spec PyProof.Rows L2 PySem.W
section
variable {X : Cx} {CX : CXT} {k : Nat} {C f : Addr} {fd : FuncData} {ps : List Str} {sp : Sp} {E : XK}
end
end DL
namespace DL
open PySem L2 PySem.W
section
variable {X : Cx} {k : Nat} {C f : Addr} {ps : List Str} {E : XK} {Ct' : Ct}
end
section
variable {K : PySem.W.Frag} {B F0 : Hp} {ro : Ro} {ka k1 k2 kr : Cells} {ta : List (V × W)} {te tf td ty : TE} {x y : W} {C a : Addr} {fs : List (Str × D)} {b : Bool} {E : XK} {De : Ends} {u : TS}
end
end DL
namespace DL
open PySem L2 PySem.W
/-- a def with defaults, called without them or with all -/
def FnE (P : Program) (w : World) (K : PySem.W.Frag) (mg : Str → Option Value) (base : Heap) (k : Nat) (f : Addr) (ps : List Str) (dvs : List V) (C : Ct) : Prop :=
  ∃ fd, FnOk P w K mg base (L2.CX P w) k f fd ps (spC K C) ∧ (∃ ds, Vals dvs ds ∧ Binds K fd ps ds) ∧ ∃ ds, Vals [] ds ∧ Binds K fd ps ds
section
variable {P : Program} {w : World} {K : PySem.W.Frag} {mg : Str → Option Value} {base : Heap} {k : Nat} {f : Addr} {ps N : List Str} {dvs : List V} {C : Ct} {x qual : Str} {params : Arguments} {body : List Stmt} {scope : Scope} {fd : FuncData}
theorem FnE.d (F : FnE P w K mg base k f ps dvs C) : FnD P w K mg base k f ps dvs C := let ⟨fd, a, b, _⟩ := F; ⟨fd, a, b⟩
theorem FnE.a (F : FnE P w K mg base k f ps dvs C) : Fn P w K mg base k f ps C := by
  obtain ⟨fd, a, _, ds, v, b⟩ := F
  cases v
  exact ⟨fd, a, b⟩
theorem fn_okE (F : FunD K x qual params body scope dvs [] f fd) (S : FnScope N ps scope) (hb : ∃ ds, Vals dvs ds ∧ Binds K fd ps ds) (hb2 : ∃ ds, Vals [] ds ∧ Binds K fd ps ds) (hl : ∀ ws ka out, C ws ka out → ws.length = ps.length)
    (h : ∀ (cdv : Value) (A : Around) (outer : List Env) (s : Shared) (H : Hp) (E : XK), Room k (A.deeper (PyProof.Rows.envOfC qual scope s.heap.objs.size f cdv)) →
      ∃ t, PSs (cxOf (L2.CX P w) P w K mg base N qual scope f cdv A outer s H E) body t ∧
        ∀ ws ka out B F0 Q, C ws ka out → RtOk K B F0 out Q → RxOk K B F0 out E → Gp K B F0 [] (t { nx := fun _ H' => Q .non H', rt := Q }) (ws.map some ++ List.replicate (N.length - ps.length) none) ka) : FnE P w K mg base (k + 1) f ps dvs C := by
  exact ⟨fd, fn_okG F S hl h, hb, hb2⟩
end
end DL
namespace DL
open PySem L2 PySem.W
/-- an own error that the law never raises: nothing is said of its __init__ -/
def spF : Sp := fun _ _ _ _ => False
structure Xf (P : Program) (w : World) (K : PySem.W.Frag) (mg : Str → Option Value) (base : Heap) (C : Addr) : Prop where
  xc : Xc K C
  ex : ∃ fI fd ps, findIn K (.ref C) "__init__" = some (some (.ref fI)) ∧ typeIn K (.ref fI) = some (.type "function") ∧ FnOk P w K mg base (L2.CX P w) 1 fI fd ps spF ∧ Binds K fd ps []
namespace Xf
variable {P : Program} {w : World} {K : PySem.W.Frag} {mg : Str → Option Value} {base : Heap} {C : Addr}
noncomputable def fI (Z : Xf P w K mg base C) : Addr := Classical.choose Z.ex
noncomputable def fd (Z : Xf P w K mg base C) : FuncData := Classical.choose (Classical.choose_spec Z.ex)
noncomputable def px (Z : Xf P w K mg base C) : List Str := Classical.choose (Classical.choose_spec (Classical.choose_spec Z.ex))
theorem all (Z : Xf P w K mg base C) : findIn K (.ref C) "__init__" = some (some (.ref Z.fI)) ∧ typeIn K (.ref Z.fI) = some (.type "function") ∧ FnOk P w K mg base (L2.CX P w) 1 Z.fI Z.fd Z.px spF ∧ Binds K Z.fd Z.px [] :=
  Classical.choose_spec (Classical.choose_spec (Classical.choose_spec Z.ex))
end Xf
end DL

/-! EN: any cells frozen for good, returns by a word, orders of cells (own work). -/
namespace DL
open PySem L2 PySem.W
section
variable {K : PySem.W.Frag} {B F F0 H : Hp} {ro ro' : Ro} {ka kb k1 k2 k3 kr kt : Cells} {ta : List (V × W)} {sg : L2.St} {te : TE} {tt : TT} {w : W} {n : Nd} {P : L2.St → Hp → Prop} {De : Ends} {b : Bool} {Q : W → Cells → Prop}
theorem EnF.frzT (e : EnF K B F ro (k1 ++ kt) ta sg H) (kd : ∀ p ∈ kt, ndK p.2 = true) (r : RoT K kt ro ro') : Gr B F (thF F H kt) ∧ EnF K B (thF F H kt) ro' k1 ta sg H := by
  have e1 := e.th_ro kd r
  have t := e.thw kd
  have hu : uni (thF B H kt) (thF F H kt) = uni B (thF F H kt) := funext fun a => by
    unfold uni
    by_cases m : a ∈ kt.map (·.1)
    · obtain ⟨p, hp, rfl⟩ := List.mem_map.mp m
      obtain ⟨o, ho, _⟩ := ndok_kind (t.ok p hp) (kd p hp)
      rw [thF_in m, ho]
    · rw [thF_out (F := B) m]
  have hw : ∀ v w, WOk K (thF B H kt) (thF F H kt) v w → WOk K B (thF F H kt) v w := fun v w h => by
    cases w with
    | val d => exact h
    | vw d =>
      show Rp K (uni B _) d v
      rw [← hu]
      exact h
  exact ⟨t.gr e.thB, e1.nz, e1.fz, e.fr, e1.nd, fun p hp => ⟨(e1.ce p hp).1, (e.ce p (List.mem_append_left _ hp)).2.1, (e1.ce p hp).2.2⟩, e1.ln, fun i w h => let ⟨v, a, b⟩ := e1.sl i w h; ⟨v, a, hw _ _ b⟩, fun p hp => hw _ _ (e1.tm p hp)⟩
/-- the cells kt are frozen, with what stands behind them -/
theorem Gp.frzT (kt : Cells) (hp : (kr ++ kt).Perm ka) (kd : ∀ p ∈ kt, ndK p.2 = true) (r : RoT K kt ro ro') (h : Gp K B F0 ta P ro' kr) : Gp K B F0 ta P ro ka := fun sg H e => by
  obtain ⟨F, g, e⟩ := e.perm hp
  obtain ⟨g2, e2⟩ := e.frzT kd r
  exact h sg H ⟨_, g.trans g2, e2⟩
theorem EvD.pm (h : EvD K te ro k1 w k2) (s1 : k1.Perm ka) (s2 : k2.Perm kb) : EvD K te ro ka w kb := fun B F0 ta sg H Q e q => h B F0 ta sg H Q (e.perm s1) fun v H' e' => q v H' (e'.perm s2.symm)
theorem EvT.pm (h : EvT K tt ro k1 b k2) (s1 : k1.Perm ka) (s2 : k2.Perm kb) : EvT K tt ro ka b kb := fun B F0 ta sg H Q e q => h B F0 ta sg H Q (e.perm s1) fun H' e' => q H' (e'.perm s2.symm)
theorem EvR.pm (h : EvR K te ro k1 Q) (s1 : k1.Perm ka) : EvR K te ro ka Q := fun B F0 ta sg H Q e q => h B F0 ta sg H Q (e.perm s1) q
theorem EvR.fr {P2 : W → Cells → Prop} (h : EvR K te ro k1 P2) (kr : Cells) (hP : ∀ w k, P2 w k → ∃ d, w = .val d) : EvR K te ro (k1 ++ kr) (fun w k => ∃ k0, P2 w k0 ∧ k = k0 ++ kr) := fun B F0 ta sg H Q e q => by
  obtain ⟨F, g, e⟩ := e
  refine h (off H k1) F [] sg H _ ⟨F, Gr.refl _ _, e.into e.ln (fun i w h => e.sl i w h) (fun p hp => by cases hp)⟩ fun w k v H' p e' => ?_
  obtain ⟨F', g', e'⟩ := e'
  obtain ⟨d, rfl⟩ := hP w k p
  obtain ⟨g2, e2⟩ := e.back g' e' (tb := (v, .val d) :: ta) fun p hp => by
    rcases List.mem_cons.mp hp with rfl | hp
    · exact .inr ⟨d, rfl, List.mem_cons_self⟩
    · exact .inl hp
  exact q _ _ v H' ⟨k, p, rfl⟩ ⟨F', g.trans g2, e2⟩
end
end DL
namespace DL
open PySem L2 PySem.W
section
variable {K : PySem.W.Frag} {ro : Ro} {ka k1 k2 : Cells} {ty td : TE} {P : W → Cells → Prop}
end
end DL
namespace DL
open PySem L2 PySem.W
/-- a test of whose end a word tells -/
def EvTR (K : PySem.W.Frag) (tt : TT) (ro : Ro) (ka : Cells) (R : Bool → Cells → Prop) : Prop := ∀ B F0 ta sg H (Q : Bool → Hp → Prop), En K B F0 ro ka ta sg H → (∀ b k H', R b k → En K B F0 ro k ta sg H' → Q b H') → tt sg H Q
section
variable {K : PySem.W.Frag} {B F0 : Hp} {ro : Ro} {ka k1 k2 : Cells} {ta : List (V × W)} {tt tu : TT} {De : Ends} {t t' u : TS} {R : Bool → Cells → Prop} {a b : Bool}
theorem g_ifR (h : EvTR K tt ro ka R) (h1 : ∀ k, R true k → Gp K B F0 ta (t De) ro k) (h2 : ∀ k, R false k → Gp K B F0 ta (t' De) ro k) : Gp K B F0 ta (tIfS tt t t' De) ro ka := fun sg H e => h B F0 ta sg H _ e fun b k H' r e' => by
  cases b with
  | true => exact h1 k r sg H' e'
  | false => exact h2 k r sg H' e'
end
def toS : D → Str
  | .str s => s
  | _ => ""
end DL
namespace DL
open PySem L2 PySem.W
section
variable {K : PySem.W.Frag} {ro : Ro} {ka k1 k2 : Cells} {te : TE} {tr : TA} {C C1 : Addr} {gs : List (Str × D)} {E : XK} {ws : List W} {Cc : Ct}
end
end DL
namespace DL
open PySem L2 PySem.W
section
variable {K : PySem.W.Frag} {ro : Ro} {ka k1 k2 : Cells} {te : TE} {tt : TT} {C : Addr} {fs : List (Str × D)} {b : Bool} {w : W} {E : XK} {Cc : Ct} {P : W → Cells → Prop} {R : Bool → Cells → Prop}
theorem etR_B (h : EvR K te ro ka P) (hP : ∀ w k, P w k → ∃ c, w = .val (.bl c) ∧ R c k) : EvTR K (tB te) ro ka R := fun B F0 ta sg H Q e q => h B F0 ta sg H _ e fun w k v H' p e' => by
  obtain ⟨c, rfl, r⟩ := hP w k p
  exact ⟨c, e'.tm_bl List.mem_cons_self, q c k H' r e'.pop⟩
theorem etR_not (h : EvTR K tt ro ka fun b k => R (!b) k) : EvTR K (tNot tt) ro ka R := fun B F0 ta sg H Q e q => h B F0 ta sg H _ e fun b k H' r e' => q (!b) k H' r e'
end
end DL


/-! EP: comprehensions over pairs; isinstance of several types (own work). -/
namespace DL
open PySem L2 PySem.W
section
variable {K : PySem.W.Frag} {B F F0 : Hp} {ro : Ro} {ka k1 : Cells} {ta : List (V × W)} {sg : L2.St} {H : Hp} {te : TE} {tt : TT} {d1 d2 : D} {j l : Nat}
end
section
variable {K : PySem.W.Frag} {ro : Ro} {ka k1 k2 : Cells} {te tf : TE} {w : W}
/-- the type of what w stands for, wherever it is asked -/
def TwX (K : PySem.W.Frag) (ka : Cells) (w : W) (t : Value) : Prop := ∀ B F0 ro ta sg H v, En K B F0 ro ka ta sg H → (v, w) ∈ ta → TyX K H v t
theorem Tw.x {t : Value} (l : Tw K ka w t) : TwX K ka w t := fun _ _ _ _ _ _ _ e h => l.at e h
end
end DL
namespace DL
open PySem L2 PySem.W
end DL
namespace DL
open PySem L2 PySem.W
section
variable {K : PySem.W.Frag} {ro : Ro} {ka k1 k2 : Cells} {te : TE} {tr : TA} {w : W} {C C1 : Addr} {fs : List (Str × D)} {b : Bool} {E : XK} {Cc : Ct} {ws : List W}
end
end DL

/-! EQ: for over a list of which a word tells (own work). -/
namespace DL
open PySem L2 PySem.W
/-- a value that is at hand -/
def tHold (v : V) : TE := fun _ H Q => Q v H
section
variable {K : PySem.W.Frag} {B F F0 : Hp} {ro : Ro} {ka k1 k2 k3 kr : Cells} {ta : List (V × W)} {sg : L2.St} {H H' : Hp} {te tf tg : TE} {w x y z : W} {n : Nd} {P P2 : W → Cells → Prop} {De : Ends} {u : TS} {r : R2}
theorem for_at {wi : TI} {ws : List W} {C : Cells → Prop} {j : Nat} {tb : TS} (e : En K B F0 ro ka ta sg H) (h : EvIat K B F0 wi ro ws C k1 ta sg H) (Inv : Nat → Ro → Cells → Prop) (h0 : Inv 0 ro k1) (hC : ∀ i ro2 ka2, Inv i ro2 ka2 → C ka2)
    (hs : ∀ i w ro2 ka2 ta', ws[i]? = some w → Inv i ro2 ka2 → Gp K B F0 ta' (tb { De with nx := Jp K B F0 ta' (Inv (i + 1)), ct := Jp K B F0 ta' (Inv (i + 1)), bk := De.nx }) (ro2.set j (some w)) ka2)
    (hd : ∀ ro2 ka2 ta', Inv ws.length ro2 ka2 → (∀ p ∈ ta, p ∈ ta') → Gp K B F0 ta' De.nx ro2 ka2) : tFor wi (gName j) tb De sg H :=
  h _ fun J ta' H1 hta e1 hgo hst => by
    refine ⟨fun i m sg H => m = ws.length - i ∧ i ≤ ws.length ∧ Jp K B F0 ta' (Inv i) sg H, ⟨ws.length, by simp, Nat.zero_le _, ro, k1, h0, e1⟩, ?_⟩
    rintro i m sg2 H2 ⟨rfl, hi, ro2, ka2, inv, e2⟩
    by_cases hlt : i < ws.length
    · obtain ⟨g1, g2⟩ := hgo i ws[i] ro2 ka2 ta' sg2 H2 (List.getElem?_eq_getElem hlt) (hC i ro2 ka2 inv) (fun p hp => hp) e2
      refine .inr ⟨g1, Jp K B F0 ta' (Inv (i + 1)), fun sg' H' q => ⟨ws.length - (i + 1), by omega, rfl, hlt, q⟩, fun x H3 y => ?_⟩
      have e3 := g2 x H3 y
      exact hs i ws[i] ro2 ka2 ta' (List.getElem?_eq_getElem hlt) inv _ _ (e3.set j)
    · have ei : i = ws.length := by omega
      subst ei
      exact .inl ⟨hst _ ro2 ka2 ta' sg2 H2 (Nat.le_refl _) (hC _ ro2 ka2 inv) (fun p hp => hp) e2, hd ro2 ka2 ta' inv hta sg2 H2 e2⟩
/-- a list at hand, walked -/
theorem ei_listAt {b : Bool} {ds : List D} {v : V} (e1 : En K B F0 ro k1 ((v, w) :: ta) sg H) (l : Lk k1 w false ds b) : EvIat K B F0 (iList K (tHold v)) ro (ds.map (part b)) (Stay w ds) k1 ((v, w) :: ta) sg H := fun R q => by
  have again : ∀ (a : Addr) ro2 ka2 ta2 sg2 H2, Stay w ds ka2 → (V.ref a, w) ∈ ta2 → En K B F0 ro2 ka2 ta2 sg2 H2 → ∃ F ys, EnF K B F ro2 ka2 ta2 sg2 H2 ∧ Gr B F0 F ∧ SqB K false H2 a ys ∧ RpL K (if b then uni B F else F) ds ys := fun a ro2 ka2 ta2 sg2 H2 hs hm e2 => by
    obtain ⟨F, g, e2⟩ := e2
    obtain ⟨a', ys, e', s2, r2⟩ := (l.mono ka2 hs).get e2 (e2.tm _ hm)
    cases e'
    exact ⟨F, ys, e2, g, s2, r2⟩
  have item : ∀ {i : Nat} {w2 : W} {F : Hp} {ys : List V}, (ds.map (part b))[i]? = some w2 → RpL K (if b then uni B F else F) ds ys → ∃ y, ys[i]? = some y ∧ WOk K B F y w2 := fun {i w2 F ys} hw r2 => by
    rw [List.getElem?_map] at hw
    cases hd : ds[i]? with
    | none => rw [hd] at hw; cases hw
    | some d =>
      rw [hd] at hw
      cases hw
      obtain ⟨y, hy, ry⟩ := rpl_get r2 hd
      exact ⟨y, hy, wok_part b ry⟩
  obtain ⟨F, g, ef⟩ := id e1
  obtain ⟨a, xs, rfl, s1, r1⟩ := l.get ef (ef.tm _ List.mem_cons_self)
  refine ⟨a, rfl, ⟨xs, .inl s1⟩, q _ ((.ref a, w) :: ta) H (fun p hp => hp) e1 (fun i w2 ro2 ka2 ta2 sg2 H2 hw hs hm e2 => ?_) fun i ro2 ka2 ta2 sg2 H2 hi hs hm e2 => ?_⟩
  · obtain ⟨F2, ys, ef2, g2, s2, r2⟩ := again a ro2 ka2 ta2 sg2 H2 hs (hm _ List.mem_cons_self) e2
    obtain ⟨y, hy, wy⟩ := item hw r2
    refine ⟨⟨ys, y, .inl s2, hy⟩, fun x H3 ⟨e3, ex⟩ => ?_⟩
    subst e3
    have h5 := ex ys (.inl s2)
    rw [hy] at h5
    cases h5
    exact ⟨F2, g2, ef2.push wy⟩
  · obtain ⟨F2, ys, ef2, g2, s2, r2⟩ := again a ro2 ka2 ta2 sg2 H2 hs (hm _ List.mem_cons_self) e2
    refine ⟨ys, .inl s2, ?_⟩
    rw [rpl_len r2]
    rwa [List.length_map] at hi
/-- for x in a list of which a word tells -/
theorem g_forR {j : Nat} {tb : TS} (h : EvR K te ro ka P)
    (k : ∀ w k1, P w k1 → ∃ ds b, Lk k1 w false ds b ∧ ∃ Inv : Nat → Ro → Cells → Prop, Inv 0 ro k1 ∧ (∀ i ro2 ka2, Inv i ro2 ka2 → Stay w ds ka2) ∧
      (∀ i d ro2 ka2 ta', ds[i]? = some d → Inv i ro2 ka2 → Gp K B F0 ta' (tb { De with nx := Jp K B F0 ta' (Inv (i + 1)), ct := Jp K B F0 ta' (Inv (i + 1)), bk := De.nx }) (ro2.set j (some (part b d))) ka2) ∧
      ∀ ro2 ka2 ta', Inv ds.length ro2 ka2 → (∀ p ∈ ta, p ∈ ta') → Gp K B F0 ta' De.nx ro2 ka2) : Gp K B F0 ta (tFor (iSeq K te) (gName j) tb De) ro ka := fun sg H e =>
  .inl (h B F0 ta sg H _ e fun w k1 v H1 p e1 => by
    obtain ⟨ds, b, l, Inv, h0, hC, hs, hd⟩ := k w k1 p
    refine for_at (j := j) (tb := tb) (De := De) e1 (ei_listAt e1 l) Inv h0 hC (fun i w2 ro2 ka2 ta' hw inv => ?_) fun ro2 ka2 ta' inv hta => hd ro2 ka2 ta' (by rwa [List.length_map] at inv) fun p hp => hta p (List.mem_cons_of_mem _ hp)
    rw [List.getElem?_map] at hw
    obtain ⟨d, hd2, rfl⟩ := Option.map_eq_some_iff.mp hw
    exact hs i d ro2 ka2 ta' hd2 inv)
theorem q_forR {j : Nat} {tb : TS} (h : EvR K te ro ka P)
    (k : ∀ w k1, P w k1 → ∃ ds b, Lk k1 w false ds b ∧ ∃ Inv : Nat → Ro → Cells → Prop, Inv 0 ro k1 ∧ (∀ i ro2 ka2, Inv i ro2 ka2 → Stay w ds ka2) ∧
      (∀ i d ro2 ka2 ta', ds[i]? = some d → Inv i ro2 ka2 → Gp K B F0 ta' (tb { De with nx := Jp K B F0 ta' (Inv (i + 1)), ct := Jp K B F0 ta' (Inv (i + 1)), bk := u De }) (ro2.set j (some (part b d))) ka2) ∧
      ∀ ro2 ka2 ta', Inv ds.length ro2 ka2 → (∀ p ∈ ta, p ∈ ta') → Gp K B F0 ta' (u De) ro2 ka2) : Gp K B F0 ta (tSeq (tFor (iSeq K te) (gName j) tb) u De) ro ka := g_forR (De := { De with nx := u De }) h k
theorem RvN.lstR {ds : List D} (h : RvN K r ka x y (.lst ds)) : RvR K r ka x y (fun w k => w = .val (.lst ds) ∧ k = ka) := fun B F0 ro ta sg H u v Q e h1 h2 q => h B F0 ro ta sg H u v Q e h1 h2 fun a H' e' => q _ _ _ H' ⟨rfl, rfl⟩ e'.freeze_l
end
end DL

/-! ES: what the courses' laws want (own work). -/
namespace DL
open PySem L2 PySem.W
/-- a reading that knows the slots it is asked at -/
def tAtS (f : L2.St → TE) : TE := fun sg H Q => f sg sg H Q
/-! an object made where the wish of an exception may speak of the slots -/
section
variable {X : Cx} {CX : CXT} {k : Nat} {C f : Addr} {fd : FuncData} {ps : List Str} {sp : Sp} {dvs : List V} {ds : List Value}
end
section
variable {K : PySem.W.Frag} {B F0 : Hp} {ro : Ro} {ka k1 k2 k3 : Cells} {ta : List (V × W)} {te tf tg : TE} {tt : TT} {De : Ends} {t u : TS} {w x y : W}
/-- arguments told by a word -/
def EvAR (K : PySem.W.Frag) (tr : TA) (ro : Ro) (ka : Cells) (R : List W → Cells → Prop) : Prop := ∀ B F0 ta sg H (Q : List V → Hp → Prop), En K B F0 ro ka ta sg H → (∀ ws k vs H', R ws k → vs.length = ws.length → En K B F0 ro k (vs.zip ws ++ ta) sg H' → Q vs H') → tr sg H Q
theorem ear_cons {tr : TA} {P : W → Cells → Prop} {R : W → List W → Cells → Prop} (h : EvR K te ro ka P) (hr : ∀ w k, P w k → EvAR K tr ro k (R w)) : EvAR K (tCons te tr) ro ka (fun ws k => ∃ w ws', ws = w :: ws' ∧ R w ws' k) := fun B F0 ta sg H Q e q =>
  h B F0 ta sg H _ e fun w k1 u H1 p e1 => hr w k1 p B F0 _ sg H1 _ e1 fun ws k2 vs H2 r hl e2 => q (w :: ws) k2 (u :: vs) H2 ⟨w, ws, rfl, r⟩ (by rw [List.length_cons, List.length_cons, hl]) (e2.held fun p hp => by
    have hp' : p ∈ (u, w) :: (vs.zip ws ++ ta) := hp
    rcases List.mem_cons.mp hp' with rfl | h
    · exact List.mem_append_right _ List.mem_cons_self
    · rcases List.mem_append.mp h with h | h
      · exact List.mem_append_left _ h
      · exact List.mem_append_right _ (List.mem_cons_of_mem _ h))
theorem EvA.toR {tr : TA} {ws : List W} (h : EvA K tr ro ka ws k1) : EvAR K tr ro ka (fun ws' k => ws' = ws ∧ k = k1) := fun B F0 ta sg H Q e q => h B F0 ta sg H _ e fun vs H' hl e' => q ws k1 vs H' ⟨rfl, rfl⟩ hl e'
theorem EvAR.imp {tr : TA} {R R2 : List W → Cells → Prop} (h : EvAR K tr ro ka R) (i : ∀ ws k, R ws k → R2 ws k) : EvAR K tr ro ka R2 := fun B F0 ta sg H Q e q => h B F0 ta sg H Q e fun ws k vs H' r => q ws k vs H' (i ws k r)
/-- a call, arguments and end told by words -/
theorem evr_callAR {tr : TA} {Cc : Ct} {E : XK} {R : List W → Cells → Prop} {P2 : W → Cells → Prop} (ha : EvAR K tr ro ka R) (hC : ∀ ws k, R ws k → ∃ (ka' k1 kr : Cells) (out : Oc), ka'.Perm k ∧ ka' = k1 ++ kr ∧ Cc ws k1 out ∧ (∀ o k, out o k → ∃ d, o = .ret d) ∧ ∀ d k2, out (.ret d) k2 → P2 (.val d) (k2 ++ kr)) :
    EvR K (tCall (spC K Cc) [] E tr) ro ka P2 := fun B F0 ta sg H Q e q =>
  ha B F0 ta sg H _ e fun ws k vs H1 r hl e1 => by
    obtain ⟨ka', k1, kr, out, s, rfl, c, ho, hO⟩ := hC ws k r
    rw [List.append_nil]
    exact sp_rel (e1.perm s) hl c ho fun d k2 v H' o e2 => q _ _ v H' (hO d k2 o) e2
theorem EvR.rp {P P2 : W → Cells → Prop} (h : EvR K te ro ka P) (hP : ∀ w k, P w k → ∃ k', P2 w k' ∧ k'.Perm k) : EvR K te ro ka P2 := fun B F0 ta sg H Q e q => h B F0 ta sg H Q e fun w k v H' p e' =>
  let ⟨k', p2, s⟩ := hP w k p
  q w k' v H' p2 (e'.perm s)
end
section
variable {P : Program} {w : World} {K : PySem.W.Frag} {mg : Str → Option Value} {base : Heap} {k : Nat} {x qual : Str} {N ps : List Str} {params : Arguments} {body : List Stmt} {scope : Scope} {f : Addr} {fd : FuncData} {C : Ct}
end
section
variable {K : PySem.W.Frag} {B F0 : Hp} {ro : Ro} {ka k1 k2 k3 : Cells} {te tf : TE} {w : W}
theorem list_snoc_ind {α : Type} {P : List α → Prop} (nil : P []) (snoc : ∀ (xs : List α) (x : α), P xs → P (xs ++ [x])) (xs : List α) : P xs := by
  have key : ∀ ys : List α, P ys.reverse := by
    intro ys
    induction ys with
    | nil => exact nil
    | cons y ys ih => rw [List.reverse_cons]; exact snoc _ _ ih
  have := key xs.reverse
  rwa [List.reverse_reverse] at this
end
end DL

/-! EU: lanes joined along a search for a way that joins one more (own work): plain lists. -/
namespace DL
open PySem L2 PySem.W
/-! a table of texts -/
abbrev Tb := List (Str × Str)
def getS (fo : Tb) (o : Str) : Option Str := (fo.find? fun p => decide (p.1 = o)).map (·.2)
def putS (fo : Tb) (o u : Str) : Tb := if o ∈ fo.map (·.1) then fo.map fun p => if p.1 = o then (o, u) else p else fo ++ [(o, u)]
theorem getS_some {fo : Tb} {o w : Str} (h : getS fo o = some w) : (o, w) ∈ fo := by
  unfold getS at h
  obtain ⟨p, h1, rfl⟩ := Option.map_eq_some_iff.mp h
  have h2 := List.find?_some h1
  have h3 := of_decide_eq_true h2
  subst h3
  exact List.mem_of_find?_eq_some h1
theorem getS_none {fo : Tb} {o : Str} : getS fo o = none ↔ ¬ o ∈ fo.map (·.1) := by
  unfold getS
  rw [Option.map_eq_none_iff, List.find?_eq_none]
  constructor
  · intro h z
    obtain ⟨p, h1, rfl⟩ := List.mem_map.mp z
    exact h p h1 (decide_eq_true rfl)
  · intro h p hp z
    exact h (List.mem_map.mpr ⟨p, hp, of_decide_eq_true z⟩)
theorem getS_mem {fo : Tb} (hn : (fo.map (·.1)).Nodup) {o w : Str} (h : (o, w) ∈ fo) : getS fo o = some w := by
  cases hg : getS fo o with
  | none => exact absurd (List.mem_map.mpr ⟨_, h, rfl⟩) (getS_none.mp hg)
  | some v =>
    have h2 := getS_some hg
    induction fo with
    | nil => cases h
    | cons p l ih =>
      have hn2 := List.nodup_cons.mp hn
      rcases List.mem_cons.mp h with e1 | h1
      · rcases List.mem_cons.mp h2 with e2 | h3
        · rw [← e1] at e2
          cases e2; rfl
        · exact absurd (List.mem_map.mpr ⟨(o, v), h3, by rw [← e1]⟩ : p.1 ∈ l.map (·.1)) hn2.1
      · rcases List.mem_cons.mp h2 with e2 | h3
        · exact absurd (List.mem_map.mpr ⟨(o, w), h1, by rw [← e2]⟩ : p.1 ∈ l.map (·.1)) hn2.1
        · have e : getS (p :: l) o = getS l o := by
            have ne : ¬ p.1 = o := fun z => hn2.1 (List.mem_map.mpr ⟨(o, w), h1, z.symm⟩)
            unfold getS
            rw [List.find?_cons_of_neg (by simp [ne])]
          rw [e] at hg
          exact ih hn2.2 h1 hg h3
theorem putS_keys {fo : Tb} {o u : Str} : (putS fo o u).map (·.1) = if o ∈ fo.map (·.1) then fo.map (·.1) else fo.map (·.1) ++ [o] := by
  unfold putS
  split
  · rw [List.map_map]
    refine List.map_congr_left fun p _ => ?_
    show (if p.1 = o then (o, u) else p).1 = p.1
    split
    · rename_i h; exact h.symm
    · rfl
  · rw [List.map_append]; rfl
theorem putS_nd {fo : Tb} {o u : Str} (hn : (fo.map (·.1)).Nodup) : ((putS fo o u).map (·.1)).Nodup := by
  rw [putS_keys]
  split
  · exact hn
  · rename_i h
    rw [List.nodup_append]
    exact ⟨hn, List.nodup_cons.mpr ⟨List.not_mem_nil, List.nodup_nil⟩, fun x hx y hy z => h (by rw [List.mem_singleton.mp hy] at z; rw [← z]; exact hx)⟩
theorem putS_has {fo : Tb} {o u x : Str} : x ∈ (putS fo o u).map (·.1) ↔ x = o ∨ x ∈ fo.map (·.1) := by
  rw [putS_keys]
  split
  · rename_i h
    constructor
    · exact .inr
    · rintro (rfl | h2)
      · exact h
      · exact h2
  · rw [List.mem_append, List.mem_singleton]
    exact Or.comm
theorem putS_mem {fo : Tb} {o u x w : Str} (h : (x, w) ∈ putS fo o u) : (x = o ∧ w = u) ∨ (x, w) ∈ fo := by
  unfold putS at h
  split at h
  · obtain ⟨p, h1, h2⟩ := List.mem_map.mp h
    split at h2
    · cases h2; exact .inl ⟨rfl, rfl⟩
    · rw [← h2]; exact .inr h1
  · rcases List.mem_append.mp h with h | h
    · exact .inr h
    · cases List.mem_singleton.mp h; exact .inl ⟨rfl, rfl⟩
theorem getS_other {fo : Tb} {o u x : Str} (h : x ≠ o) : getS (putS fo o u) x = getS fo x := by
  unfold getS putS
  split
  · have key : ∀ l : Tb, ((l.map fun p => if p.1 = o then (o, u) else p).find? fun p => decide (p.1 = x)).map (·.2) = (l.find? fun p => decide (p.1 = x)).map (·.2) := by
      intro l
      induction l with
      | nil => rfl
      | cons p l ih =>
        rw [List.map_cons]
        by_cases e : p.1 = o
        · rw [if_pos e, List.find?_cons_of_neg (by simp [Ne.symm h]), List.find?_cons_of_neg (by rw [e]; simp [Ne.symm h])]
          exact ih
        · rw [if_neg e]
          by_cases e2 : p.1 = x
          · rw [List.find?_cons_of_pos (by simp [e2]), List.find?_cons_of_pos (by simp [e2])]
          · rw [List.find?_cons_of_neg (by simp [e2]), List.find?_cons_of_neg (by simp [e2])]
            exact ih
    exact key fo
  · rw [List.find?_append]
    have : ([(o, u)] : Tb).find? (fun p => decide (p.1 = x)) = none := by rw [List.find?_cons_of_neg (by simp [Ne.symm h])]; rfl
    rw [this, Option.or_none]
/-- the values behind a put -/
theorem putS_vals {fo : Tb} {o u w : Str} (hn : (fo.map (·.1)).Nodup) (h : getS fo o = some w) : (w :: (putS fo o u).map (·.2)).Perm (u :: fo.map (·.2)) := by
  have hm := getS_some h
  have hk : o ∈ fo.map (·.1) := List.mem_map.mpr ⟨_, hm, rfl⟩
  unfold putS
  rw [if_pos hk]
  clear h hk
  induction fo with
  | nil => cases hm
  | cons p l ih =>
    have hn2 := List.nodup_cons.mp hn
    rcases List.mem_cons.mp hm with e | hm
    · subst e
      rw [List.map_cons, List.map_cons, List.map_cons, if_pos rfl]
      have e2 : (l.map fun p => if p.1 = o then (o, u) else p) = l := by
        have : ∀ q ∈ l, (if q.1 = o then (o, u) else q) = q := fun q hq => if_neg fun z => hn2.1 (List.mem_map.mpr ⟨q, hq, z⟩)
        exact (List.map_congr_left this).trans (List.map_id _)
      rw [e2]
      exact List.Perm.swap _ _ _
    · have ne : ¬ p.1 = o := fun z => hn2.1 (List.mem_map.mpr ⟨_, hm, z.symm⟩)
      rw [List.map_cons, List.map_cons, List.map_cons, if_neg ne]
      exact (List.Perm.swap _ _ _).trans (((ih hn2.2 hm).cons _).trans (List.Perm.swap _ _ _))
theorem putS_valsN {fo : Tb} {o u : Str} (h : getS fo o = none) : (putS fo o u).map (·.2) = fo.map (·.2) ++ [u] := by
  unfold putS
  rw [if_neg (getS_none.mp h), List.map_append]
  rfl
/-! the search -/
structure Js where
  fo : Tb
  tr : List Str
def augL (rec : Str → Js → Bool × Js) (u : Str) : List Str → Js → Bool × Js
  | [], s => (false, s)
  | o :: os, s => if o ∈ s.tr then augL rec u os s else
    match getS s.fo o with
    | none => (true, ⟨putS s.fo o u, s.tr ++ [o]⟩)
    | some w => match rec w ⟨s.fo, s.tr ++ [o]⟩ with
      | (true, s2) => (true, ⟨putS s2.fo o u, s2.tr⟩)
      | (false, s2) => augL rec u os s2
def aug (bh : Str → List Str) : Nat → Str → Js → Bool × Js
  | 0, _, s => (false, s)
  | n + 1, u, s => augL (aug bh n) u (bh u) s
/-- what a search leaves: what was tried stays; tried ones keep their place; without success all stays -/
structure Ag (s : Js) (r : Bool × Js) : Prop where
  tr : ∀ x ∈ s.tr, x ∈ r.2.tr
  keep : ∀ x ∈ s.tr, getS r.2.fo x = getS s.fo x
  fail : r.1 = false → r.2.fo = s.fo
  nd : (s.fo.map (·.1)).Nodup → (r.2.fo.map (·.1)).Nodup
theorem ag_L {rec : Str → Js → Bool × Js} (hr : ∀ w s, Ag s (rec w s)) (u : Str) : ∀ (os : List Str) (s : Js), Ag s (augL rec u os s)
  | [], s => ⟨fun _ h => h, fun _ _ => rfl, fun _ => rfl, fun h => h⟩
  | o :: os, s => by
    unfold augL
    split
    · exact ag_L hr u os s
    · rename_i hno
      split
      · exact ⟨fun x h => List.mem_append_left _ h, fun x h => getS_other fun z => hno (by rw [← z]; exact h), fun z => (by cases z), putS_nd⟩
      · rename_i w hw
        have a := hr w ⟨s.fo, s.tr ++ [o]⟩
        split
        · rename_i s2 e
          rw [e] at a
          refine ⟨fun x h => a.tr x (List.mem_append_left _ h), fun x h => ?_, fun z => (by cases z), fun h => putS_nd (a.nd h)⟩
          exact (getS_other fun z => hno (by rw [← z]; exact h)).trans (a.keep x (List.mem_append_left _ h))
        · rename_i s2 e
          rw [e] at a
          have b := ag_L hr u os s2
          refine ⟨fun x h => b.tr x (a.tr x (List.mem_append_left _ h)), fun x h => (b.keep x (a.tr x (List.mem_append_left _ h))).trans (a.keep x (List.mem_append_left _ h)), fun z => (b.fail z).trans (a.fail rfl), fun h => b.nd (a.nd h)⟩
theorem ag_all (bh : Str → List Str) : ∀ (n : Nat) (u : Str) (s : Js), Ag s (aug bh n u s)
  | 0, u, s => ⟨fun _ h => h, fun _ _ => rfl, fun _ => rfl, fun h => h⟩
  | n + 1, u, s => ag_L (ag_all bh n) u (bh u) s
/-- success: u has a place more -/
theorem aug_vals (bh : Str → List Str) : ∀ (n : Nat) (u : Str) (s s' : Js), (s.fo.map (·.1)).Nodup → aug bh n u s = (true, s') → (s'.fo.map (·.2)).Perm (u :: s.fo.map (·.2))
  | 0, u, s, s', _, h => by cases h
  | n + 1, u, s, s', hn, h => by
    have key : ∀ (os : List Str) (s : Js), (s.fo.map (·.1)).Nodup → augL (aug bh n) u os s = (true, s') → (s'.fo.map (·.2)).Perm (u :: s.fo.map (·.2)) := by
      intro os
      induction os with
      | nil => intro s _ h; cases h
      | cons o os ih =>
        intro s hn h
        unfold augL at h
        split at h
        · exact ih s hn h
        · split at h
          · rename_i hg
            cases h
            show ((putS s.fo o u).map (·.2)).Perm _
            rw [putS_valsN hg]
            exact List.perm_append_comm
          · rename_i w hw
            have a := ag_all bh n w ⟨s.fo, s.tr ++ [o]⟩
            split at h
            · rename_i s2 e
              cases h
              have ihv := aug_vals bh n w ⟨s.fo, s.tr ++ [o]⟩ _ hn e
              rw [e] at a
              have hk : getS s2.fo o = some w := (a.keep o (List.mem_append_right _ (List.mem_singleton.mpr rfl))).trans hw
              have p1 := putS_vals (u := u) (a.nd hn) hk
              exact (List.Perm.cons_inv (a := w) (p1.trans ((ihv.cons u).trans (List.Perm.swap _ _ _))))
            · rename_i s2 e
              rw [e] at a
              have hf : s2.fo = s.fo := a.fail rfl
              have := ih s2 (a.nd hn) h
              rwa [hf] at this
    exact key _ _ hn h
/-- all pairs are of the relation -/
theorem aug_edge {bh : Str → List Str} : ∀ (n : Nat) (u : Str) (s : Js), (∀ p ∈ s.fo, p.1 ∈ bh p.2) → ∀ p ∈ (aug bh n u s).2.fo, p.1 ∈ bh p.2
  | 0, u, s, h => h
  | n + 1, u, s, h => by
    have key : ∀ (os : List Str) (s : Js), (∀ o ∈ os, o ∈ bh u) → (∀ p ∈ s.fo, p.1 ∈ bh p.2) → ∀ p ∈ (augL (aug bh n) u os s).2.fo, p.1 ∈ bh p.2 := by
      intro os
      induction os with
      | nil => intro s _ h; exact h
      | cons o os ih =>
        intro s hos h
        have put : ∀ fo : Tb, (∀ p ∈ fo, p.1 ∈ bh p.2) → ∀ p ∈ putS fo o u, p.1 ∈ bh p.2 := fun fo hf p hp => by
          rcases putS_mem (x := p.1) (w := p.2) hp with ⟨e1, e2⟩ | hp
          · rw [e1, e2]; exact hos o List.mem_cons_self
          · exact hf _ hp
        unfold augL
        split
        · exact ih s (fun x hx => hos x (List.mem_cons_of_mem _ hx)) h
        · split
          · exact put _ h
          · rename_i w hw
            have hr := aug_edge n w ⟨s.fo, s.tr ++ [o]⟩ h
            split
            · rename_i s2 e
              rw [e] at hr
              exact put _ hr
            · rename_i s2 e
              rw [e] at hr
              exact ih s2 (fun x hx => hos x (List.mem_cons_of_mem _ hx)) hr
    exact key _ _ (fun _ h => h) h
/-- T is closed: each of T has a place, and what is behind that one is in T -/
def Cl (bh : Str → List Str) (fo : Tb) (T : List Str) : Prop := ∀ o ∈ T, ∃ w, getS fo o = some w ∧ ∀ x ∈ bh w, x ∈ T
/-- no search leaves a closed set -/
theorem aug_cl {bh : Str → List Str} {T : List Str} : ∀ (n : Nat) (u : Str) (s : Js), Cl bh s.fo T → (∀ x ∈ bh u, x ∈ T) → (aug bh n u s).1 = false
  | 0, u, s, _, _ => rfl
  | n + 1, u, s, hc, hu => by
    have key : ∀ (os : List Str) (s : Js), (∀ o ∈ os, o ∈ T) → Cl bh s.fo T → (augL (aug bh n) u os s).1 = false := by
      intro os
      induction os with
      | nil => intro s _ _; rfl
      | cons o os ih =>
        intro s hos hc
        have hos2 : ∀ x ∈ os, x ∈ T := fun x hx => hos x (List.mem_cons_of_mem _ hx)
        obtain ⟨w, hw, hb⟩ := hc o (hos o List.mem_cons_self)
        unfold augL
        rw [hw]
        dsimp only
        split
        · exact ih s hos2 hc
        · have hr := aug_cl n w ⟨s.fo, s.tr ++ [o]⟩ hc hb
          have a := ag_all bh n w ⟨s.fo, s.tr ++ [o]⟩
          split
          · rename_i s2 e
            rw [e] at hr
            cases hr
          · rename_i s2 e
            rw [e] at a
            exact ih s2 hos2 (by rw [a.fail rfl]; exact hc)
    exact key _ _ hu hc
theorem aug_keepT {bh : Str → List Str} {T : List Str} : ∀ (n : Nat) (u : Str) (s : Js), Cl bh s.fo T → ∀ o ∈ T, getS (aug bh n u s).2.fo o = getS s.fo o
  | 0, u, s, _, _, _ => rfl
  | n + 1, u, s, hc, t, ht => by
    have key : ∀ (os : List Str) (s : Js), Cl bh s.fo T → getS (augL (aug bh n) u os s).2.fo t = getS s.fo t := by
      intro os
      induction os with
      | nil => intro s _; rfl
      | cons o os ih =>
        intro s hc
        unfold augL
        split
        · exact ih s hc
        · split
          · rename_i hg
            refine getS_other fun z => ?_
            subst z
            obtain ⟨w, hw, _⟩ := hc t ht
            rw [hg] at hw
            cases hw
          · rename_i w hw
            have hk := aug_keepT n w ⟨s.fo, s.tr ++ [o]⟩ hc t ht
            have a := ag_all bh n w ⟨s.fo, s.tr ++ [o]⟩
            split
            · rename_i s2 e
              rw [e] at hk
              refine (getS_other fun z => ?_).trans hk
              subst z
              obtain ⟨w', hw', hb⟩ := hc t ht
              rw [hw] at hw'
              cases hw'
              have := aug_cl n w ⟨s.fo, s.tr ++ [t]⟩ hc hb
              rw [e] at this
              cases this
            · rename_i s2 e
              rw [e] at a hk
              rw [ih s2 (by rw [a.fail rfl]; exact hc)]
              exact hk
    exact key _ _ hc
/-- a search that fails has tried a closed set -/
theorem aug_fail {bh : Str → List Str} {L : List Str} (hb : ∀ l, ∀ x ∈ bh l, x ∈ L) : ∀ (n : Nat) (u : Str) (s s' : Js), s.tr.Nodup → (∀ x ∈ s.tr, x ∈ L) → L.length < n + s.tr.length → aug bh n u s = (false, s') →
    s'.tr.Nodup ∧ (∀ x ∈ s'.tr, x ∈ L) ∧ (∀ o ∈ bh u, o ∈ s'.tr) ∧ ∀ o ∈ s'.tr, ¬ o ∈ s.tr → ∃ w, getS s.fo o = some w ∧ ∀ x ∈ bh w, x ∈ s'.tr
  | 0, u, s, s', hd, hs, hl, h => by
    have len : s.tr.length ≤ L.length := by
      clear h hl
      generalize s.tr = xs at *
      have sub : ∀ (xs ys : List Str), xs.Nodup → (∀ x ∈ xs, x ∈ ys) → xs.length ≤ ys.length := by
        intro xs
        induction xs with
        | nil => intro ys _ _; exact Nat.zero_le _
        | cons x xs ih =>
          intro ys hn hm
          have h2 := List.nodup_cons.mp hn
          have hx := hm x List.mem_cons_self
          have := ih (ys.erase x) h2.2 fun y hy => (List.mem_erase_of_ne (fun z : y = x => h2.1 (by rw [← z]; exact hy))).mpr (hm y (List.mem_cons_of_mem _ hy))
          rw [List.length_erase_of_mem hx] at this
          have : 0 < ys.length := List.length_pos_of_mem hx
          rw [List.length_cons]
          omega
      exact sub xs L hd hs
    omega
  | n + 1, u, s, s', hd, hs, hl, h => by
    have key : ∀ (os : List Str) (s : Js), (∀ o ∈ os, o ∈ L) → s.tr.Nodup → (∀ x ∈ s.tr, x ∈ L) → L.length < n + 1 + s.tr.length → augL (aug bh n) u os s = (false, s') →
        s'.tr.Nodup ∧ (∀ x ∈ s'.tr, x ∈ L) ∧ (∀ x ∈ s.tr, x ∈ s'.tr) ∧ (∀ o ∈ os, o ∈ s'.tr) ∧ ∀ o ∈ s'.tr, ¬ o ∈ s.tr → ∃ w, getS s.fo o = some w ∧ ∀ x ∈ bh w, x ∈ s'.tr := by
      intro os
      induction os with
      | nil =>
        intro s _ hd hs _ h
        cases h
        exact ⟨hd, hs, fun _ h => h, fun _ h => (by cases h), fun o h1 h2 => absurd h1 h2⟩
      | cons o os ih =>
        intro s hos hd hs hl h
        have hos2 : ∀ x ∈ os, x ∈ L := fun x hx => hos x (List.mem_cons_of_mem _ hx)
        unfold augL at h
        split at h
        · rename_i hin
          obtain ⟨h1, h2, h3, h4, h5⟩ := ih s hos2 hd hs hl h
          refine ⟨h1, h2, h3, fun x hx => ?_, h5⟩
          rcases List.mem_cons.mp hx with rfl | hx
          · exact h3 _ hin
          · exact h4 x hx
        · rename_i hin
          split at h
          · cases h
          · rename_i w hw
            have a := ag_all bh n w ⟨s.fo, s.tr ++ [o]⟩
            split at h
            · cases h
            · rename_i s2 e
              have hd2 : (s.tr ++ [o]).Nodup := by
                rw [List.nodup_append]
                exact ⟨hd, List.nodup_cons.mpr ⟨List.not_mem_nil, List.nodup_nil⟩, fun x hx y hy z => hin (by rw [List.mem_singleton.mp hy] at z; rw [← z]; exact hx)⟩
              have hs2 : ∀ x ∈ s.tr ++ [o], x ∈ L := fun x hx => by
                rcases List.mem_append.mp hx with hx | hx
                · exact hs x hx
                · rw [List.mem_singleton.mp hx]; exact hos o List.mem_cons_self
              obtain ⟨r1, r2, r3, r4⟩ := aug_fail hb n w ⟨s.fo, s.tr ++ [o]⟩ s2 hd2 hs2 (by show L.length < n + (s.tr ++ [o]).length; rw [List.length_append, List.length_singleton]; omega) e
              rw [e] at a
              have hf : s2.fo = s.fo := a.fail rfl
              have hlen : s.tr.length ≤ s2.tr.length := by
                have sub : ∀ (xs ys : List Str), xs.Nodup → (∀ x ∈ xs, x ∈ ys) → xs.length ≤ ys.length := by
                  intro xs
                  induction xs with
                  | nil => intro ys _ _; exact Nat.zero_le _
                  | cons x xs ih =>
                    intro ys hn hm
                    have h2 := List.nodup_cons.mp hn
                    have hx := hm x List.mem_cons_self
                    have := ih (ys.erase x) h2.2 fun y hy => (List.mem_erase_of_ne (fun z : y = x => h2.1 (by rw [← z]; exact hy))).mpr (hm y (List.mem_cons_of_mem _ hy))
                    rw [List.length_erase_of_mem hx] at this
                    have : 0 < ys.length := List.length_pos_of_mem hx
                    rw [List.length_cons]
                    omega
                exact sub _ _ hd fun x hx => a.tr x (List.mem_append_left _ hx)
              obtain ⟨h1, h2, h3, h4, h5⟩ := ih s2 hos2 r1 r2 (by omega) h
              refine ⟨h1, h2, fun x hx => h3 x (a.tr x (List.mem_append_left _ hx)), fun x hx => ?_, fun x hx hxs => ?_⟩
              · rcases List.mem_cons.mp hx with rfl | hx
                · exact h3 _ (a.tr _ (List.mem_append_right _ (List.mem_singleton.mpr rfl)))
                · exact h4 x hx
              · by_cases hx2 : x ∈ s2.tr
                · by_cases hxo : x = o
                  · subst hxo
                    exact ⟨w, hw, fun y hy => h3 y (r3 y hy)⟩
                  · obtain ⟨w', q1, q2⟩ := r4 x hx2 fun z => (List.mem_append.mp z).elim hxs fun z => hxo (List.mem_singleton.mp z)
                    exact ⟨w', q1, fun y hy => h3 y (q2 y hy)⟩
                · obtain ⟨w', q1, q2⟩ := h5 x hx hx2
                  rw [hf] at q1
                  exact ⟨w', q1, q2⟩
    obtain ⟨h1, h2, h3, h4, h5⟩ := key _ _ (fun o ho => hb u o ho) hd hs hl h
    exact ⟨h1, h2, h4, h5⟩
end DL

/-! EV: as many lanes apart as chains are wanted (own work): plain lists. -/
namespace DL
open PySem L2 PySem.W
theorem nd_sub_len : ∀ {xs ys : List Str}, xs.Nodup → (∀ x ∈ xs, x ∈ ys) → xs.length ≤ ys.length
  | [], _, _, _ => Nat.zero_le _
  | x :: xs, ys, hn, hm => by
    have h2 := List.nodup_cons.mp hn
    have hx := hm x List.mem_cons_self
    have := nd_sub_len (ys := ys.erase x) h2.2 fun y hy => (List.mem_erase_of_ne (fun z : y = x => h2.1 (by rw [← z]; exact hy))).mpr (hm y (List.mem_cons_of_mem _ hy))
    rw [List.length_erase_of_mem hx] at this
    have : 0 < ys.length := List.length_pos_of_mem hx
    rw [List.length_cons]
    omega
/-- one lane joined, if it can be -/
def foStep (bh : Str → List Str) (n : Nat) (fo : Tb) (l : Str) : Tb := (aug bh n l ⟨fo, []⟩).2.fo
def foAll (bh : Str → List Str) (n : Nat) (ls : List Str) (fo : Tb) : Tb := ls.foldl (foStep bh n) fo
/-- joined so far: those of pre that have no place are shut in by a closed set -/
structure Jn (bh : Str → List Str) (L pre : List Str) (fo : Tb) : Prop where
  kn : (fo.map (·.1)).Nodup
  vn : (fo.map (·.2)).Nodup
  vs : ∀ v ∈ fo.map (·.2), v ∈ pre
  ed : ∀ p ∈ fo, p.1 ∈ bh p.2
  cl : ∃ T, Cl bh fo T ∧ (∀ x ∈ T, x ∈ L) ∧ ∀ u ∈ pre, ¬ u ∈ fo.map (·.2) → ∀ x ∈ bh u, x ∈ T
theorem Jn.step {bh : Str → List Str} {L pre : List Str} {fo : Tb} (h : Jn bh L pre fo) (hb : ∀ l, ∀ x ∈ bh l, x ∈ L) {n : Nat} (hn : L.length < n) {l : Str} (hl : ¬ l ∈ pre) : Jn bh L (pre ++ [l]) (foStep bh n fo l) := by
  obtain ⟨T, hT, hTL, hU⟩ := h.cl
  have a := ag_all bh n l ⟨fo, []⟩
  have ed := aug_edge (bh := bh) n l ⟨fo, []⟩ h.ed
  have kt := aug_keepT (T := T) n l ⟨fo, []⟩ hT
  unfold foStep
  generalize hr : aug bh n l ⟨fo, []⟩ = r at *
  obtain ⟨b, s'⟩ := r
  cases b with
  | false =>
    have hf : s'.fo = fo := a.fail rfl
    obtain ⟨h1, h2, h3, h4⟩ := aug_fail hb n l ⟨fo, []⟩ s' List.nodup_nil (fun _ z => (by cases z)) (by show L.length < n + 0; omega) hr
    show Jn bh L (pre ++ [l]) s'.fo
    rw [hf]
    refine ⟨h.kn, h.vn, fun v hv => List.mem_append_left _ (h.vs v hv), h.ed, T ++ s'.tr, fun o ho => ?_, fun x hx => ?_, fun u hu hnu x hx => ?_⟩
    · rcases List.mem_append.mp ho with ho | ho
      · obtain ⟨w, q1, q2⟩ := hT o ho
        exact ⟨w, q1, fun x hx => List.mem_append_left _ (q2 x hx)⟩
      · obtain ⟨w, q1, q2⟩ := h4 o ho (fun z => by cases z)
        exact ⟨w, q1, fun x hx => List.mem_append_right _ (q2 x hx)⟩
    · exact (List.mem_append.mp hx).elim (hTL x) (h2 x)
    · rcases List.mem_append.mp hu with hu | hu
      · exact List.mem_append_left _ (hU u hu hnu x hx)
      · rw [List.mem_singleton.mp hu] at hx
        exact List.mem_append_right _ (h3 x hx)
  | true =>
    have hv := aug_vals bh n l ⟨fo, []⟩ s' h.kn hr
    have hv : (s'.fo.map (·.2)).Perm (l :: fo.map (·.2)) := hv
    show Jn bh L (pre ++ [l]) s'.fo
    refine ⟨a.nd h.kn, ?_, fun v hm => ?_, ed, T, fun o ho => ?_, hTL, fun u hu hnu => ?_⟩
    · exact hv.nodup_iff.mpr (List.nodup_cons.mpr ⟨fun z => hl (h.vs l z), h.vn⟩)
    · rcases List.mem_cons.mp (hv.mem_iff.mp hm) with rfl | hm
      · exact List.mem_append_right _ (List.mem_singleton.mpr rfl)
      · exact List.mem_append_left _ (h.vs v hm)
    · obtain ⟨w, q1, q2⟩ := hT o ho
      exact ⟨w, (kt o ho).trans q1, q2⟩
    · rcases List.mem_append.mp hu with hu | hu
      · exact hU u hu fun z => hnu (hv.mem_iff.mpr (List.mem_cons_of_mem _ z))
      · rw [List.mem_singleton.mp hu] at hnu
        exact absurd (hv.mem_iff.mpr List.mem_cons_self) hnu
theorem Jn.all {bh : Str → List Str} {L : List Str} (hb : ∀ l, ∀ x ∈ bh l, x ∈ L) {n : Nat} (hn : L.length < n) : ∀ (ls pre : List Str) (fo : Tb), (pre ++ ls).Nodup → Jn bh L pre fo → Jn bh L (pre ++ ls) (foAll bh n ls fo)
  | [], pre, fo, _, h => by rw [List.append_nil]; exact h
  | l :: ls, pre, fo, hd, h => by
    have e : pre ++ l :: ls = (pre ++ [l]) ++ ls := by rw [List.append_assoc]; rfl
    rw [e] at hd ⊢
    have hl : ¬ l ∈ pre := fun z => (List.nodup_append.mp (List.nodup_append.mp hd).1).2.2 l z l (List.mem_singleton.mpr rfl) rfl
    exact Jn.all hb hn ls (pre ++ [l]) _ hd (h.step hb hn hl)
theorem Jn.ini {bh : Str → List Str} {L : List Str} : Jn bh L [] [] := ⟨List.nodup_nil, List.nodup_nil, fun _ h => (by cases h), fun _ h => (by cases h), [], fun _ h => (by cases h), fun _ h => (by cases h), fun _ h => (by cases h)⟩
/-- an order of lanes: strict -/
structure Od (bh : Str → List Str) (L : List Str) : Prop where
  sub : ∀ l, ∀ x ∈ bh l, x ∈ L
  irr : ∀ l, ¬ l ∈ bh l
  tra : ∀ {l x y}, x ∈ bh l → y ∈ bh x → y ∈ bh l

/-! lanes apart -/
def vOf (fo : Tb) (o : Str) : Str := (getS fo o).getD ""
/-- left ones so far and right ones: the first lefts have no place, then those of the rights -/
structure Ap (bh : Str → List Str) (L : List Str) (fo : Tb) (T U left right : List Str) : Prop where
  le : left = U ++ right.map (vOf fo)
  rn : right.Nodup
  rt : ∀ x ∈ right, x ∈ T
  rb : ∀ x ∈ right, ∃ l ∈ left, x ∈ bh l
/-- what is fixed: fo joins lanes, T closed -/
structure Fx0 (bh : Str → List Str) (L : List Str) (fo : Tb) (T U : List Str) : Prop where
  od : Od bh L
  ln : L.Nodup
  kn : (fo.map (·.1)).Nodup
  vn : (fo.map (·.2)).Nodup
  vs : ∀ v ∈ fo.map (·.2), v ∈ L
  ed : ∀ p ∈ fo, p.1 ∈ bh p.2
  tl : ∀ x ∈ T, x ∈ L
  cl : Cl bh fo T
  ue : U = L.filter fun l => !decide (l ∈ fo.map (·.2))
  ut : ∀ u ∈ U, ∀ x ∈ bh u, x ∈ T
section
variable {bh : Str → List Str} {L : List Str} {fo : Tb} {T U left right : List Str}
theorem vOf_at {o w : Str} (h : getS fo o = some w) : vOf fo o = w := by unfold vOf; rw [h]; rfl
theorem Fx0.at (f : Fx0 bh L fo T U) {o : Str} (h : o ∈ T) : getS fo o = some (vOf fo o) ∧ (o, vOf fo o) ∈ fo ∧ ∀ x ∈ bh (vOf fo o), x ∈ T := by
  obtain ⟨w, h1, h2⟩ := f.cl o h
  rw [vOf_at h1]
  exact ⟨h1, getS_some h1, h2⟩
theorem Ap.bT (f : Fx0 bh L fo T U) (a : Ap bh L fo T U left right) {l : Str} (hl : l ∈ left) : ∀ x ∈ bh l, x ∈ T := by
  rw [a.le] at hl
  rcases List.mem_append.mp hl with hl | hl
  · exact f.ut l hl
  · obtain ⟨o, ho, rfl⟩ := List.mem_map.mp hl
    exact (f.at (a.rt o ho)).2.2
theorem Ap.add (f : Fx0 bh L fo T U) (a : Ap bh L fo T U left right) {l o : Str} (hl : l ∈ left) (ho : o ∈ bh l) (hn : ¬ o ∈ right) : Ap bh L fo T U (left ++ [vOf fo o]) (right ++ [o]) := by
  refine ⟨by rw [a.le, List.map_append, List.append_assoc]; rfl, ?_, fun x hx => ?_, fun x hx => ?_⟩
  · rw [List.nodup_append]
    exact ⟨a.rn, List.nodup_cons.mpr ⟨List.not_mem_nil, List.nodup_nil⟩, fun x hx y hy z => hn (by rw [List.mem_singleton.mp hy] at z; rw [← z]; exact hx)⟩
  · rcases List.mem_append.mp hx with hx | hx
    · exact a.rt x hx
    · rw [List.mem_singleton.mp hx]; exact a.bT f hl o ho
  · rcases List.mem_append.mp hx with hx | hx
    · obtain ⟨l', h1, h2⟩ := a.rb x hx
      exact ⟨l', List.mem_append_left _ h1, h2⟩
    · rw [List.mem_singleton.mp hx]; exact ⟨l, List.mem_append_left _ hl, ho⟩
theorem inj_of_vn : ∀ {fo : Tb}, (fo.map (·.2)).Nodup → ∀ {o o' w : Str}, (o, w) ∈ fo → (o', w) ∈ fo → o = o'
  | [], _, _, _, _, h, _ => by cases h
  | p :: l, hn, o, o', w, h1, h2 => by
    have hn2 := List.nodup_cons.mp hn
    rcases List.mem_cons.mp h1 with e1 | h1
    · rcases List.mem_cons.mp h2 with e2 | h2
      · rw [← e1] at e2; cases e2; rfl
      · exact absurd (List.mem_map.mpr ⟨(o', w), h2, by rw [← e1]⟩ : p.2 ∈ l.map (·.2)) hn2.1
    · rcases List.mem_cons.mp h2 with e2 | h2
      · exact absurd (List.mem_map.mpr ⟨(o, w), h1, by rw [← e2]⟩ : p.2 ∈ l.map (·.2)) hn2.1
      · exact inj_of_vn hn2.2 h1 h2
theorem Ap.nd (f : Fx0 bh L fo T U) (a : Ap bh L fo T U left right) : left.Nodup ∧ ∀ x ∈ left, x ∈ L := by
  have hU : ∀ u ∈ U, u ∈ L ∧ ¬ u ∈ fo.map (·.2) := fun u hu => by
    rw [f.ue, List.mem_filter, Bool.not_eq_true', decide_eq_false_iff_not] at hu
    exact hu
  have hv : ∀ o ∈ right, (o, vOf fo o) ∈ fo := fun o ho => (f.at (a.rt o ho)).2.1
  rw [a.le]
  refine ⟨List.nodup_append.mpr ⟨by rw [f.ue]; exact f.ln.filter _, ?_, fun x hx y hy z => ?_⟩, fun x hx => ?_⟩
  · have key : ∀ rs : List Str, rs.Nodup → (∀ o ∈ rs, (o, vOf fo o) ∈ fo) → (rs.map (vOf fo)).Nodup := by
      intro rs
      induction rs with
      | nil => intro _ _; exact List.nodup_nil
      | cons r rs ih =>
        intro hn hm
        have h2 := List.nodup_cons.mp hn
        rw [List.map_cons, List.nodup_cons]
        refine ⟨fun z => ?_, ih h2.2 fun o ho => hm o (List.mem_cons_of_mem _ ho)⟩
        obtain ⟨o, ho, e⟩ := List.mem_map.mp z
        have m1 := hm o (List.mem_cons_of_mem _ ho)
        rw [e] at m1
        exact h2.1 (inj_of_vn f.vn m1 (hm r List.mem_cons_self) ▸ ho)
    exact key _ a.rn hv
  · obtain ⟨o, ho, rfl⟩ := List.mem_map.mp hy
    exact (hU x hx).2 (z ▸ List.mem_map.mpr ⟨_, hv o ho, rfl⟩)
  · rcases List.mem_append.mp hx with hx | hx
    · exact (hU x hx).1
    · obtain ⟨o, ho, rfl⟩ := List.mem_map.mp hx
      exact f.vs _ (List.mem_map.mpr ⟨_, hv o ho, rfl⟩)
/-- the lanes that are left and not right -/
def apL (L left right : List Str) : List Str := L.filter fun l => decide (l ∈ left) && !decide (l ∈ right)
theorem mem_apL {x : Str} : x ∈ apL L left right ↔ x ∈ L ∧ x ∈ left ∧ ¬ x ∈ right := by
  unfold apL
  rw [List.mem_filter, Bool.and_eq_true, decide_eq_true_eq, Bool.not_eq_true', decide_eq_false_iff_not]
theorem filt_len : ∀ (xs : List Str) (p : Str → Bool), (xs.filter p).length + (xs.filter fun x => !p x).length = xs.length
  | [], _ => rfl
  | x :: xs, p => by
    have := filt_len xs p
    rw [List.filter_cons, List.filter_cons]
    cases p x <;> simp <;> omega
/-- no two of them in the order; as many as have no place -/
theorem Ap.fin (f : Fx0 bh L fo T U) (a : Ap bh L fo T U left right) (hc : ∀ l ∈ left, ∀ x ∈ bh l, x ∈ right) :
    (∀ x ∈ apL L left right, ∀ y ∈ apL L left right, ¬ y ∈ bh x) ∧ (apL L left right).length = U.length := by
  obtain ⟨ln, ls⟩ := a.nd f
  refine ⟨fun x hx y hy z => (mem_apL.mp hy).2.2 (hc x (mem_apL.mp hx).2.1 y z), ?_⟩
  -- every right one is a left one
  have hrl : ∀ x ∈ right, x ∈ left := fun x hx => by
    have hxL := f.tl x (a.rt x hx)
    by_cases hu : x ∈ fo.map (·.2)
    · obtain ⟨p, hp, e⟩ := List.mem_map.mp hu
      have hpb := f.ed p hp
      have e : p.2 = x := e
      rw [e] at hpb
      obtain ⟨l, hl, hxl⟩ := a.rb x hx
      have hpr := hc l hl p.1 (f.od.tra hxl hpb)
      have hv : vOf fo p.1 = p.2 := vOf_at (getS_mem f.kn (show (p.1, p.2) ∈ fo from hp))
      rw [a.le]
      exact List.mem_append_right _ (List.mem_map.mpr ⟨p.1, hpr, hv.trans e⟩)
    · rw [a.le]
      exact List.mem_append_left _ (by rw [f.ue, List.mem_filter, Bool.not_eq_true', decide_eq_false_iff_not]; exact ⟨hxL, hu⟩)
  have e1 : (apL L left right).length = (left.filter fun l => !decide (l ∈ right)).length := by
    refine Nat.le_antisymm (nd_sub_len (f.ln.filter _) fun x hx => ?_) (nd_sub_len (ln.filter _) fun x hx => ?_)
    · have := mem_apL.mp hx
      exact List.mem_filter.mpr ⟨this.2.1, by rw [decide_eq_false this.2.2]; rfl⟩
    · obtain ⟨h1, h2⟩ := List.mem_filter.mp hx
      rw [Bool.not_eq_true', decide_eq_false_iff_not] at h2
      exact mem_apL.mpr ⟨ls x h1, h1, h2⟩
  have e2 : (left.filter fun l => decide (l ∈ right)).length = right.length := by
    refine Nat.le_antisymm (nd_sub_len (ln.filter _) fun x hx => of_decide_eq_true (List.mem_filter.mp hx).2) (nd_sub_len a.rn fun x hx => List.mem_filter.mpr ⟨hrl x hx, decide_eq_true hx⟩)
  have e3 := filt_len left fun l => decide (l ∈ right)
  have e4 : left.length = U.length + right.length := by rw [a.le, List.length_append, List.length_map]
  omega
end
end DL

/-! EW: chains of joined lanes (own work): plain lists. -/
namespace DL
open PySem L2 PySem.W
/-- the table turned about: who follows -/
def swS (fo : Tb) : Tb := fo.map fun p => (p.2, p.1)
theorem swS_mem {fo : Tb} {x y : Str} : (x, y) ∈ swS fo ↔ (y, x) ∈ fo := by
  unfold swS
  rw [List.mem_map]
  constructor
  · rintro ⟨p, hp, e⟩
    cases e
    exact hp
  · intro h
    exact ⟨(y, x), h, rfl⟩
/-- from a lane on, the followers -/
def chF (fo : Tb) : Nat → Str → List Str
  | 0, l => [l]
  | n + 1, l => match getS (swS fo) l with
    | none => [l]
    | some y => l :: chF fo n y
/-- fo joins lanes of L in order -/
structure Jo (bh : Str → List Str) (L : List Str) (fo : Tb) : Prop where
  od : Od bh L
  ln : L.Nodup
  kn : (fo.map (·.1)).Nodup
  vn : (fo.map (·.2)).Nodup
  vs : ∀ v ∈ fo.map (·.2), v ∈ L
  ed : ∀ p ∈ fo, p.1 ∈ bh p.2
section
variable {bh : Str → List Str} {L : List Str} {fo : Tb}
theorem Jo.nx (j : Jo bh L fo) {x y : Str} (h : getS (swS fo) x = some y) : (y, x) ∈ fo ∧ y ∈ bh x ∧ y ∈ L := by
  have h1 := swS_mem.mp (getS_some h)
  have h2 : y ∈ bh x := j.ed _ h1
  exact ⟨h1, h2, j.od.sub x y h2⟩
theorem Jo.ch (j : Jo bh L fo) : ∀ (n : Nat) (l : Str), l ∈ L → (∀ x ∈ chF fo n l, x ∈ L ∧ (x = l ∨ x ∈ bh l)) ∧ (chF fo n l).Pairwise (fun a b => b ∈ bh a)
  | 0, l, hl => ⟨fun x hx => by rw [List.mem_singleton.mp hx]; exact ⟨hl, .inl rfl⟩, List.pairwise_singleton _ _⟩
  | n + 1, l, hl => by
    rw [chF]
    cases h : getS (swS fo) l with
    | none => exact ⟨fun x hx => by rw [List.mem_singleton.mp hx]; exact ⟨hl, .inl rfl⟩, List.pairwise_singleton _ _⟩
    | some y =>
      obtain ⟨_, hy, hyL⟩ := j.nx h
      obtain ⟨h1, h2⟩ := j.ch n y hyL
      have h3 : ∀ x ∈ chF fo n y, x ∈ bh l := fun x hx => by
        rcases (h1 x hx).2 with rfl | z
        · exact hy
        · exact j.od.tra hy z
      refine ⟨fun x hx => ?_, List.pairwise_cons.mpr ⟨h3, h2⟩⟩
      rcases List.mem_cons.mp hx with rfl | hx
      · exact ⟨hl, .inl rfl⟩
      · exact ⟨(h1 x hx).1, .inr (h3 x hx)⟩
end
/-- a state of the search over L -/
structure JOk (L : List Str) (s : Js) : Prop where
  kn : (s.fo.map (·.1)).Nodup
  ks : ∀ x ∈ s.fo.map (·.1), x ∈ L
  vs : ∀ x ∈ s.fo.map (·.2), x ∈ L
  tn : s.tr.Nodup
  ts : ∀ x ∈ s.tr, x ∈ L
theorem JOk.put {L : List Str} {s : Js} (h : JOk L s) {o u : Str} (ho : o ∈ L) (hu : u ∈ L) : JOk L ⟨putS s.fo o u, s.tr⟩ := by
  refine ⟨putS_nd h.kn, fun x hx => ?_, fun x hx => ?_, h.tn, h.ts⟩
  · rcases putS_has.mp hx with rfl | hx
    · exact ho
    · exact h.ks x hx
  · obtain ⟨p, hp, rfl⟩ := List.mem_map.mp hx
    rcases putS_mem (x := p.1) (w := p.2) hp with ⟨_, e⟩ | hp
    · rw [e]; exact hu
    · exact h.vs _ (List.mem_map.mpr ⟨_, hp, rfl⟩)
theorem JOk.len {L : List Str} {s : Js} (h : JOk L s) : s.tr.length ≤ L.length ∧ s.fo.length ≤ L.length := by
  refine ⟨nd_sub_len h.tn h.ts, ?_⟩
  have := nd_sub_len h.kn h.ks
  rwa [List.length_map] at this
end DL

/-! EX: two own objects of one class and an operator (own work). -/
namespace DL
open PySem L2 PySem.W
/-! ### x op y, both of one class of the text -/
section
variable {X : Cx} {CX : CXT} {k : Nat} {C f : Addr} {fd : FuncData} {ps : List Str} {sp : Sp} {E : XK} {Cc : Ct}
/-- x op= y -/
structure Io2 (K : PySem.W.Frag) (C : Addr) (op : Operator) (f : Addr) : Prop where
  first : selfFirst K C = true
  sm : Sm K C (dunderI op.info.2) f
end
/-! ### the same where what is raised may speak of the slots -/
section
variable {X : Cx} {k : Nat} {C f : Addr} {ps : List Str} {E : L2.St → XK} {Cc : Ct} {l r : Expr} {pos : Pos} {tl tr : TE}
end
/-! ### data -/
section
variable {K : PySem.W.Frag} {B F0 : Hp} {ro : Ro} {ka k1 k2 k3 kr : Cells} {ta : List (V × W)} {td te tf ty tx : TE} {De : Ends} {t u : TS} {w x y : W} {b b2 : Bool} {C : Addr} {fs gs : List (Str × D)} {d : D}
end
section
variable {K : PySem.W.Frag} {B F0 : Hp} {ro : Ro} {ka k1 k2 k3 kr : Cells} {ta : List (V × W)} {td te tf ty tx : TE} {De De' : Ends} {t u : TS} {w x y : W} {b b2 : Bool} {C C1 : Addr} {fs gs hs : List (Str × D)} {d : D}
end
end DL

/-! EY: patterns as trees, their words, the machine of atoms (own work). -/
namespace DL
open PySem L2 PySem.W
/-- a pattern: an atom (one of some names, or none of them), two behind one another, either, any number, one or none -/
inductive Tr where
  | at (any : Bool) (ns : List Str) | join (a b : Tr) | either (a b : Tr) | rep (a : Tr) | opt (a : Tr)
def kdS : Bool → Str
  | true => "any"
  | false => "none"
/-- as the program holds it (names a tuple), as the law holds it (names a list) -/
def Tr.d (law : Bool) : Tr → D
  | .at k ns => .tup [.str (kdS k), if law then .lst (stD ns) else .tup (stD ns)]
  | .join a b => .tup [.str "join", a.d law, b.d law]
  | .either a b => .tup [.str "either", a.d law, b.d law]
  | .rep a => .tup [.str "repeat", a.d law]
  | .opt a => .tup [.str "option", a.d law]
/-- nested operators -/
def Tr.dep : Tr → Nat
  | .at _ _ => 0
  | .join a b => max a.dep b.dep + 1
  | .either a b => max a.dep b.dep + 1
  | .rep a => a.dep + 1
  | .opt a => a.dep + 1
/-- an atom takes a name -/
def atB (p : Bool × List Str) (x : Str) : Bool := decide (x ∈ p.2) == p.1
/-- any number of words one behind another -/
inductive Str_ (P : List Str → Prop) : List Str → Prop where
  | nil : Str_ P []
  | snoc {u z : List Str} (h : Str_ P u) (hz : P z) : Str_ P (u ++ z)
/-- the machine: atoms, first and last ones, pairs, has it the empty word -/
structure Mc where
  at_ : List (Bool × List Str)
  fi : List Nat
  la : List Nat
  pr : List (Nat × Nat)
  op : Bool
def crN (xs ys : List Nat) : List (Nat × Nat) := xs.flatMap fun x => ys.map fun y => (x, y)
def mcT : Tr → Nat → Mc
  | .at k ns, s => ⟨[(k, ns)], [s], [s], [], false⟩
  | .rep a, s => let m := mcT a s; ⟨m.at_, m.fi, m.la, m.pr ++ crN m.la m.fi, true⟩
  | .opt a, s => let m := mcT a s; ⟨m.at_, m.fi, m.la, m.pr, true⟩
  | .either a b, s => let m := mcT a s; let n := mcT b (s + m.at_.length); ⟨m.at_ ++ n.at_, m.fi ++ n.fi, m.la ++ n.la, m.pr ++ n.pr, m.op || n.op⟩
  | .join a b, s => let m := mcT a s; let n := mcT b (s + m.at_.length)
    ⟨m.at_ ++ n.at_, if m.op then m.fi ++ n.fi else m.fi, if n.op then m.la ++ n.la else n.la, m.pr ++ n.pr ++ crN m.la n.fi, m.op && n.op⟩
/-- a way through the machine that reads w and ends at an atom -/
inductive Pth (T : Nat → Str → Bool) (fi : List Nat) (pr : List (Nat × Nat)) : List Str → Nat → Prop where
  | one {a : Nat} {x : Str} (h : a ∈ fi) (t : T a x = true) : Pth T fi pr [x] a
  | more {w : List Str} {a b : Nat} {x : Str} (h : Pth T fi pr w a) (hp : (a, b) ∈ pr) (t : T b x = true) : Pth T fi pr (w ++ [x]) b
theorem Pth.ne {T : Nat → Str → Bool} {fi : List Nat} {pr : List (Nat × Nat)} {w : List Str} {a : Nat} (h : Pth T fi pr w a) : w ≠ [] := by
  cases h <;> simp
/-- atoms within lo ≤ .. < hi -/
structure McR (m : Mc) (lo hi : Nat) : Prop where
  fi : ∀ a ∈ m.fi, lo ≤ a ∧ a < hi
  la : ∀ a ∈ m.la, lo ≤ a ∧ a < hi
  pr : ∀ p ∈ m.pr, (lo ≤ p.1 ∧ p.1 < hi) ∧ lo ≤ p.2 ∧ p.2 < hi
section
variable {T : Nat → Str → Bool} {fi fi2 fi' : List Nat} {pr pr2 pr' : List (Nat × Nat)} {w u v : List Str} {a c : Nat}
theorem Pth.mono (h : Pth T fi pr w c) (h1 : ∀ a ∈ fi, a ∈ fi') (h2 : ∀ p ∈ pr, p ∈ pr') : Pth T fi' pr' w c := by
  induction h with
  | one h t => exact .one (h1 _ h) t
  | more h hp t ih => exact .more ih (h2 _ hp) t
end
/-! ### the machine run -/
def tkM (m : Mc) (a : Nat) (x : Str) : Bool := match m.at_[a]? with
  | some p => atB p x
  | none => false
def behM (m : Mc) (ps : List Nat) (a : Nat) : Bool := ps.any fun p => decide ((p, a) ∈ m.pr)
def startM (m : Mc) (x : Str) : List Nat := m.fi.filter fun a => tkM m a x
def afterM (m : Mc) (ps : List Nat) (x : Str) : List Nat := (List.range m.at_.length).filter fun a => tkM m a x && behM m ps a
def doneM (m : Mc) (ps : List Nat) : Bool := ps.any fun p => decide (p ∈ m.la)
def runM (m : Mc) : List Str → List Nat
  | [] => []
  | x :: r => r.foldl (afterM m) (startM m x)
theorem run_snoc {m : Mc} {w : List Str} {x : Str} (h : w ≠ []) : runM m (w ++ [x]) = afterM m (runM m w) x := by
  cases w with
  | nil => exact absurd rfl h
  | cons y r =>
    show (r ++ [x]).foldl _ _ = _
    rw [List.foldl_append]
    rfl
end DL

/-! EZ: pairs of numbers as keys (own work). -/
namespace DL
open PySem L2 PySem.W
section
variable {K : PySem.W.Frag} {B F F0 : Hp} {ro : Ro} {ka k1 k2 k3 kr : Cells} {ta : List (V × W)} {sg : L2.St} {H H' : Hp} {te tf tg td ty tk tv : TE} {tt : TT} {w : W} {a : Addr} {b : Bool}
end
end DL

/-! FA: a list comprehension with two fors, by data, for the library's reading tLc2 (own work). -/
namespace DL
open PySem L2 PySem.W
section
variable {K : PySem.W.Frag} {B F F0 : Hp} {ro : Ro} {ka k1 k2 k3 kr : Cells} {ta : List (V × W)} {sg : L2.St} {H H' : Hp} {te : TE}
end
end DL

/-! FB: machines as data (own work). -/
namespace DL
open PySem L2 PySem.W
structure Fits (m : Mc) : Prop where
  a : m.at_.length ≤ 300
  f : m.fi.length ≤ 300
  l : m.la.length ≤ 300
  p : m.pr.length ≤ 90000
/-- a pattern small enough for its machine, and so are its parts -/
def Tr.sm : Tr → Prop
  | .at k ns => ns.length ≤ 1000
  | .join a b => a.sm ∧ b.sm ∧ ∀ s, Fits (mcT (.join a b) s)
  | .either a b => a.sm ∧ b.sm ∧ ∀ s, Fits (mcT (.either a b) s)
  | .rep a => a.sm ∧ ∀ s, Fits (mcT (.rep a) s)
  | .opt a => a.sm ∧ ∀ s, Fits (mcT (.opt a) s)
theorem Tr.sm.fits {t : Tr} (h : t.sm) (s : Nat) : Fits (mcT t s) := by
  cases t with
  | «at» k ns => exact ⟨by show 1 ≤ 300; decide, by show 1 ≤ 300; decide, by show 1 ≤ 300; decide, by show 0 ≤ 90000; decide⟩
  | join a b => exact h.2.2 s
  | either a b => exact h.2.2 s
  | rep a => exact h.2 s
  | opt a => exact h.2 s
/-! sizes -/
def Tr.ats : Tr → Nat
  | .at _ _ => 1
  | .join a b => a.ats + b.ats
  | .either a b => a.ats + b.ats
  | .rep a => a.ats
  | .opt a => a.ats
theorem mc_at_len : ∀ (t : Tr) (s : Nat), (mcT t s).at_.length = t.ats
  | .at _ _, _ => rfl
  | .rep a, s => mc_at_len a s
  | .opt a, s => mc_at_len a s
  | .either a b, s => by
    show (_ ++ _ : List _).length = _
    rw [List.length_append, mc_at_len a, mc_at_len b]
    rfl
  | .join a b, s => by
    show (_ ++ _ : List _).length = _
    rw [List.length_append, mc_at_len a, mc_at_len b]
    rfl
/-- all atoms hold few names -/
def Tr.few : Tr → Prop
  | .at _ ns => ns.length ≤ 1000
  | .join a b => a.few ∧ b.few
  | .either a b => a.few ∧ b.few
  | .rep a => a.few
  | .opt a => a.few
section
variable {K : PySem.W.Frag} {ro : Ro} {ka k1 k2 : Cells} {te tf : TE}
/-- list + list, both frozen -/
theorem ev_catL {ds es : List D} (h : EvD K te ro ka (.val (.lst ds)) k1) (h2 : EvD K tf ro k1 (.val (.lst es)) k2) (hz : ds.length + es.length ≤ 100000) : EvD K (tOp (rAddU K) te tf) ro ka (.val (.lst (ds ++ es))) k2 := (evn_op h h2 (rvn_cat (b1 := false) (b2 := false) .vl .vl hz)).lst
theorem En.freeze_t {B F0 : Hp} {ta : List (V × W)} {sg : L2.St} {H : Hp} {a : Addr} {ds : List (List Key × D)} (e : En K B F0 ro (ka ++ [(a, .dit ds)]) ta sg H) : En K B F0 ro ka ((.ref a, .val (.dit ds)) :: ta) sg H := by
  obtain ⟨F, g, e⟩ := e
  obtain ⟨fa, ba, xs, ha, rl⟩ := e.ce (a, .dit ds) (by simp)
  have gg : Gr B F (upd F a (.dT xs)) := ⟨Sub.new fa, fun b h1 h2 => by
    have ne : b ≠ a := fun q => h2 (q ▸ ba)
    rw [upd_ne ne]
    exact h1⟩
  have nd2 := e.nd
  rw [List.map_append, List.nodup_append] at nd2
  refine ⟨upd F a (.dT xs), g.trans gg, ⟨fun b u h => ?_, fun b u h => ?_, e.fr, nd2.1, fun q hq => ?_, e.ln, fun i w h => ?_, fun q hq => ?_⟩⟩
  · by_cases hb : b = a
    · subst hb; rw [upd_same] at h; cases h; rfl
    · rw [upd_ne hb] at h; exact e.nz b u h
  · by_cases hb : b = a
    · subst hb; rw [upd_same] at h; cases h; exact .inl ha
    · rw [upd_ne hb] at h; exact e.fz b u h
  · obtain ⟨h1, h2, h3⟩ := e.ce q (List.mem_append_left _ hq)
    have nq : q.1 ≠ a := fun z => nd2.2.2 q.1 (List.mem_map.mpr ⟨q, hq, rfl⟩) a (by simp) z
    exact ⟨by rw [upd_ne nq]; exact h1, h2, ndok_gr e.nz gg h3⟩
  · obtain ⟨v, h1, h2⟩ := e.sl i w h
    exact ⟨v, h1, wok_gr e.nz gg h2⟩
  · rcases List.mem_cons.mp hq with rfl | hq
    · exact ⟨a, xs, rfl, .inl upd_same, RpT.mono gg.sub.exz e.nz _ _ rl⟩
    · exact wok_gr e.nz gg (e.tm q hq)
theorem EvN.dit {ds : List (List Key × D)} (h : EvN K te ro ka (.dit ds) k1) : EvD K te ro ka (.val (.dit ds)) k1 := fun B F0 ta sg H Q e q => h B F0 ta sg H Q e fun a H1 e1 => q _ _ e1.freeze_t
end
section
variable {K : PySem.W.Frag} {ro : Ro} {ka k1 k2 : Cells} {te tf : TE} {y : W}
end
theorem EvI.ws {K : PySem.W.Frag} {wi : TI} {ro : Ro} {ka k1 : Cells} {ws ws' : List W} {C : Cells → Prop} (h : EvI K wi ro ka ws C k1) (e : ws = ws') : EvI K wi ro ka ws' C k1 := e ▸ h
end DL

/-! FC: where the words of a pattern end (own work). -/
namespace DL
open PySem L2 PySem.W
/-- steps one behind another -/
inductive Stp (R : Nat → Nat → Prop) (s : Nat) : Nat → Prop where
  | nil : Stp R s s
  | snoc {m k : Nat} (h : Stp R s m) (hr : R m k) : Stp R s k
end DL

/-! FD: {x: True for x in xs}, xs a list of tuples: the library's DictComp_goesN with the hand layer's state as what holds at each turn (own work). -/
namespace DL
open PySem L2 PySem.W PyProof.Rows
section
variable {X : Cx}
end
end DL
namespace DL
open PySem L2 PySem.W
section
variable {K : PySem.W.Frag} {B F F0 : Hp} {ro : Ro} {ka k1 k2 : Cells} {ta : List (V × W)} {sg : L2.St} {H H' : Hp} {te : TE}
end
end DL

/-! FE: the ends of a pattern's words, as the law counts them (own work). -/
namespace DL
open PySem L2 PySem.W
/-- the places not there yet, appended -/
def addN (acc : List Nat) (ps : List Nat) : List Nat := ps.foldl (fun acc p => if p ∈ acc then acc else acc ++ [p]) acc
theorem addN_cons (acc : List Nat) (p : Nat) (ps : List Nat) : addN acc (p :: ps) = addN (if p ∈ acc then acc else acc ++ [p]) ps := rfl
theorem addN_ext (ps : List Nat) : ∀ acc, ∃ r, addN acc ps = acc ++ r := by
  induction ps with
  | nil => exact fun acc => ⟨[], (List.append_nil _).symm⟩
  | cons p ps ih =>
    intro acc
    rw [addN_cons]
    split
    · exact ih acc
    · obtain ⟨r, e⟩ := ih (acc ++ [p])
      exact ⟨p :: r, by rw [e, List.append_assoc]; rfl⟩
theorem addN_mem {x : Nat} (ps : List Nat) : ∀ acc, x ∈ addN acc ps ↔ x ∈ acc ∨ x ∈ ps := by
  induction ps with
  | nil => exact fun acc => by simp [addN]
  | cons p ps ih =>
    intro acc
    rw [addN_cons, ih]
    split
    · rename_i h
      simp only [List.mem_cons]
      constructor
      · rintro (z | z)
        · exact .inl z
        · exact .inr (.inr z)
      · rintro (z | rfl | z)
        · exact .inl z
        · exact .inl h
        · exact .inr z
    · simp only [List.mem_append, List.mem_cons, List.not_mem_nil, or_false]
      rw [or_assoc]
theorem addN_nodup (ps : List Nat) : ∀ acc, acc.Nodup → (addN acc ps).Nodup := by
  induction ps with
  | nil => exact fun acc h => h
  | cons p ps ih =>
    intro acc h
    rw [addN_cons]
    split
    · exact ih acc h
    · rename_i hp
      refine ih _ (List.nodup_append.mpr ⟨h, by simp, fun a ha b hb => ?_⟩)
      rw [List.mem_singleton.mp hb]
      exact fun z => hp (z ▸ ha)
structure RepI (f : Nat → List Nat) (L s n : Nat) (found : List Nat) (i : Nat) : Prop where
  nd : found.Nodup
  le : ∀ x ∈ found, x ≤ L
  st : s ∈ found
  sound : ∀ x ∈ found, Stp (fun m k => k ∈ f m) s x
  shut : ∀ j x, j < i → found[j]? = some x → ∀ k ∈ f x, k ∈ found
  at_ : i ≤ found.length
  fuel : L + 2 ≤ n + i
theorem RepI.next {f : Nat → List Nat} {L s n : Nat} {found : List Nat} {i p : Nat} (bd : ∀ m ≤ L, ∀ k ∈ f m, k ≤ L) (h : RepI f L s (n + 1) found i) (hp : found[i]? = some p) : RepI f L s n (addN found (f p)) (i + 1) := by
  have mp := List.mem_of_getElem? hp
  obtain ⟨r, er⟩ := addN_ext (f p) found
  have lt := (List.getElem?_eq_some_iff.mp hp).1
  refine ⟨addN_nodup _ _ h.nd, fun x hx => ?_, (addN_mem _ _).mpr (.inl h.st), fun x hx => ?_, fun j x hj hx k hk => ?_, ?_, by have := h.fuel; omega⟩
  · rcases (addN_mem _ _).mp hx with z | z
    · exact h.le x z
    · exact bd p (h.le p mp) x z
  · rcases (addN_mem _ _).mp hx with z | z
    · exact h.sound x z
    · exact .snoc (h.sound p mp) z
  · by_cases e : j = i
    · subst e
      rw [er, List.getElem?_append_left lt, hp] at hx
      cases hx
      exact (addN_mem _ _).mpr (.inr hk)
    · have lj : j < i := by omega
      rw [er, List.getElem?_append_left (by omega)] at hx
      exact (addN_mem _ _).mpr (.inl (h.shut j x lj hx k hk))
  · rw [er, List.length_append]
    omega
theorem Stp.imp {R S : Nat → Nat → Prop} {s L : Nat} (hs : s ≤ L) (hR : ∀ m k, m ≤ L → R m k → S m k ∧ k ≤ L) {k : Nat} (h : Stp R s k) : Stp S s k ∧ k ≤ L := by
  induction h with
  | nil => exact ⟨.nil, hs⟩
  | snoc _ hr ih =>
    obtain ⟨h1, h2⟩ := hR _ _ ih.2 hr
    exact ⟨.snoc ih.1 h1, h2⟩
end DL

/-! FF: defs with a star parameter, by contracts about the tuple (own work). -/
namespace DL
open PySem L2 PySem.W PyProof.Rows
/-- a contract about the tuple of all arguments, told by the arguments -/
def CtV (C : Ct) : Ct := fun ws ka out => ∃ ds : List D, ws = ds.map W.val ∧ ds.length ≤ 100000 ∧ C [.val (.tup ds)] ka out
/-- the def at f, which takes any number of arguments, keeps C of their tuple -/
def FnV (P : Program) (w : World) (K : PySem.W.Frag) (mg : Str → Option Value) (base : Heap) (k : Nat) (f : Addr) (C : Ct) : Prop := FnR P w K mg base (L2.CX P w) k f (spC K (CtV C))
section
variable {P : Program} {w : World} {K : PySem.W.Frag} {mg : Str → Option Value} {base : Heap} {f : Addr} {fd : FuncData} {x qual pv : Str} {params : Arguments} {body : List Stmt} {scope : Scope} {N : List Str} {k j : Nat} {C : Ct}
theorem FnV.up (F : FnV P w K mg base j f C) (h : j ≤ k) : FnV P w K mg base k f C := FnR.mono F h
end
section
variable {X : Cx} {k : Nat} {f : Addr} {C : Ct} {E : XK} {x : Str} {p pos : Pos} {e : Expr} {es : List Expr} {t : TA}
end
/-- trees as the law draws them: at each end one to three names, or none behind "none" -/
def niceT : Tr → Prop
  | .at k ns => ns.length ≤ 3 ∧ (k = true → ns ≠ []) ∧ ∀ n ∈ ns, isNm n = true
  | .join a b => niceT a ∧ niceT b
  | .either a b => niceT a ∧ niceT b
  | .rep a => niceT a
  | .opt a => niceT a
end DL

/-! FG: patterns turned about and multiplied (own work). -/
namespace DL
open PySem L2 PySem.W
end DL
namespace DL
open PySem L2 PySem.W
end DL

/-! FH: errors without fields handed on (own work). -/
namespace DL
open PySem L2 PySem.W
section
variable {K : PySem.W.Frag} {B F0 : Hp} {ro : Ro} {ka k1 k2 : Cells} {ta : List (V × W)} {te tf : TE} {tr : TA} {De : Ends} {u : TS} {C1 : Addr} {gs : List (Str × D)} {out : Oc} {E : XK} {w : W}
theorem g_retPX (hX : RxOk K B F0 out E) (h : EvX K te ro ka E C1 gs k2) (o : out (.exc C1 gs) k2) : Gp K B F0 ta (tRet te De) ro ka := fun sg H e => h B F0 ta sg H _ e fun dx H' e' => hX.1 C1 gs k2 dx H' o e'.leaveX
end
end DL

/-! FI: `is not` between truth values (own work). -/
namespace DL
open PySem L2 PySem.W
section
variable {K : PySem.W.Frag} {ro : Ro} {ka k1 k2 : Cells} {te tf : TE}
end
end DL

/-! FJ: dicts whose keys are tuples of any depth: read, asked, written (own work). -/
namespace DL
open PySem L2 PySem.W PyProof.Rows

/-! ### rows -/
/-- keys and values alone -/
def rowN {α : Type} (xs : List (NestedKey × Addr × α)) : List (NestedKey × α) := xs.map fun x => (x.1, x.2.2)
def setA {α : Type} (k : NestedKey) (v : α) (x : NestedKey × Addr × α) : NestedKey × Addr × α := if x.1 = k then (x.1, x.2.1, v) else x
/-- a key that stands keeps its place and its own thing -/
def putA {α : Type} (xs : List (NestedKey × Addr × α)) (k : NestedKey) (b : Addr) (v : α) : List (NestedKey × Addr × α) :=
  if hasT (rowN xs) k = true then xs.map (setA k v) else xs ++ [(k, b, v)]
section
variable {α : Type}
end
/-- a row of values as they are seen, as they lie -/
abbrev SeesN : List (NestedKey × Addr × V) → List (NestedKey × Addr × Value) → Prop := Paired fun p q => p.1 = q.1 ∧ p.2.1 = q.2.1 ∧ RelV p.2.2 q.2.2
theorem SeesN.has {xs : List (NestedKey × Addr × V)} {qs : List (NestedKey × Addr × Value)} (r : SeesN xs qs) (k : NestedKey) :
    (getT (rowN xs) k = none ∧ hasT (rowN xs) k = false ∧ atKey qs k = none) ∨ ∃ v p, getT (rowN xs) k = some v ∧ hasT (rowN xs) k = true ∧ atKey qs k = some p ∧ RelV v p.2 := by
  unfold SeesN at r
  induction r with
  | nil => exact .inl ⟨rfl, rfl, rfl⟩
  | @cons p q ps qs h t ih =>
    obtain ⟨h1, h2, h3⟩ := h
    by_cases e : p.1 = k
    · refine .inr ⟨p.2.2, q.2, ?_, ?_, ?_, h3⟩
      · show getT ((p.1, p.2.2) :: rowN ps) k = _
        simp [getT, e]
      · show hasT ((p.1, p.2.2) :: rowN ps) k = _
        simp [hasT, e]
      · have e2 : q.1 = k := h1.symm.trans e
        simp [atKey, e2]
    · have e2 : ¬ q.1 = k := fun z => e (h1.trans z)
      have a1 : getT (rowN (p :: ps)) k = getT (rowN ps) k := by
        show getT ((p.1, p.2.2) :: rowN ps) k = _
        simp [getT, e]
      have a2 : hasT (rowN (p :: ps)) k = hasT (rowN ps) k := by
        show hasT ((p.1, p.2.2) :: rowN ps) k = _
        simp [hasT, e]
      have a3 : atKey (q :: qs) k = atKey qs k := by simp [atKey, e2]
      rw [a1, a2, a3]
      exact ih
theorem SeesN.put {xs : List (NestedKey × Addr × V)} {qs : List (NestedKey × Addr × Value)} (r : SeesN xs qs) (k : NestedKey) (b : Addr) {v : V} {u : Value} (rv : RelV v u) : SeesN (putA xs k b v) (storedH qs k b u) := by
  have hh : hasT (rowN xs) k = (atKey qs k).isSome := by
    rcases r.has k with ⟨_, h, h2⟩ | ⟨_, _, _, h, h2, _⟩ <;> rw [h, h2] <;> rfl
  unfold putA storedH
  rw [hh]
  split
  · unfold SeesN at r
    clear hh
    rename_i hx
    clear hx
    induction r with
    | nil => exact .nil
    | @cons p q ps qs h t ih =>
      obtain ⟨h1, h2, h3⟩ := h
      refine .cons ?_ ih
      unfold putAt setA
      by_cases e : p.1 = k
      · rw [if_pos e, if_pos (h1.symm.trans e)]
        exact ⟨h1, h2, rv⟩
      · rw [if_neg e, if_neg fun z => e (h1.trans z)]
        exact ⟨h1, h2, h3⟩
  · exact Paired.snoc r ⟨rfl, rfl, rv⟩

/-- all its keys stand where they are told -/
def NAt (K : PySem.W.Frag) (H : Hp) (w : World) (a : Addr) (xs : List (NestedKey × Addr × V)) : Prop := Rd H a (DnO w a xs) ∧ ∀ x ∈ xs, RkN K H x.1 (.ref x.2.1) ∧ x.1.depth ≤ 8
section
variable {X : Cx} {pins : List (Addr × Obj)} {σ : L2.St} {H : Hp} {s : Shared} {a b : Addr} {xs : List (NestedKey × Addr × V)}
mutual
theorem key_is (I : L2.Inv X pins σ H s) : ∀ (k : NestedKey) (v : V) (u : Value), RkN X.K H k v → RelV v u → NestedIs s.heap k u
  | .none, _, _, h, r => by
    subst h
    cases (show _ = Value.none from r)
    exact .none
  | .num i, _, _, h, r => by
    subst h
    obtain ⟨t, rfl⟩ := (show ∃ t, _ = Value.int i t from r)
    exact .int i t
  | .text x, _, _, h, r => by
    subst h
    obtain ⟨t, rfl⟩ := (show ∃ t, _ = Value.str x t from r)
    exact .text x t
  | .tup ks, _, _, h, r => by
    obtain ⟨c, ys, rfl, h1, h2⟩ := h
    cases (show _ = Value.ref c from r)
    obtain ⟨its, rel, ⟨o, ho, hc, n, hd⟩, _⟩ := I.tuple h1
    exact .tup ho hc hd (by simpa using keys_are I ks ys its h2 rel)
theorem keys_are (I : L2.Inv X pins σ H s) : ∀ (ks : List NestedKey) (vs : List V) (us : List Value), RkL X.K H ks vs → Vals vs us → NestedAll s.heap ks us
  | [], _, us, h, r => by
    subst h
    cases r
    exact .nil
  | k :: ks, _, us, h, r => by
    obtain ⟨x, ys, rfl, h1, h2⟩ := h
    cases r with
    | cons r1 r2 => exact .cons (key_is I k x _ h1 r1) (keys_are I ks ys _ h2 r2)
end
end

section
variable {X : Cx} {o i value : Expr} {pos pos' : Pos} {td ty tv tk : TE}
end
end DL

/-! FK: dicts with nested keys, by data (own work). -/
namespace DL
open PySem L2 PySem.W

/-! ### keys as data -/
mutual
def nkD : NestedKey → D
  | .none => .non
  | .num i => .int i
  | .text s => .str s
  | .tup ks => .tup (nkDs ks)
def nkDs : List NestedKey → List D
  | [] => []
  | k :: ks => nkD k :: nkDs ks
end
section
variable {K : PySem.W.Frag} {F : Hp}
mutual
theorem rk_iff : ∀ (k : NestedKey) (v : V), RkN K F k v ↔ Rp K F (nkD k) v
  | .none, _ => Iff.rfl
  | .num _, _ => Iff.rfl
  | .text _, _ => Iff.rfl
  | .tup ks, v => ⟨fun ⟨a, xs, e, h1, h2⟩ => ⟨a, xs, e, h1, (rks_iff ks xs).mp h2⟩, fun ⟨a, xs, e, h1, h2⟩ => ⟨a, xs, e, h1, (rks_iff ks xs).mpr h2⟩⟩
theorem rks_iff : ∀ (ks : List NestedKey) (vs : List V), RkL K F ks vs ↔ RpL K F (nkDs ks) vs
  | [], _ => Iff.rfl
  | k :: ks, vs => ⟨fun ⟨x, ys, e, h1, h2⟩ => ⟨x, ys, e, (rk_iff k x).mp h1, (rks_iff ks ys).mp h2⟩, fun ⟨x, ys, e, h1, h2⟩ => ⟨x, ys, e, (rk_iff k x).mpr h1, (rks_iff ks ys).mpr h2⟩⟩
end
end
/-! ### rows -/
section
variable {K : PySem.W.Frag} {F : Hp}
theorem rpn_keys : ∀ {ds : List (NestedKey × D)} {xs : List (NestedKey × Addr × V)}, RpN K F ds xs → ∀ x ∈ xs, RkN K F x.1 (.ref x.2.1) ∧ x.1.depth ≤ 8
  | [], xs, h => by rw [show xs = [] from h]; exact fun _ hx => nomatch hx
  | (k, d) :: ds, xs, h => by
    obtain ⟨b, x, ys, rfl, h0, h1, h2⟩ := h
    intro y hy
    rcases List.mem_cons.mp hy with rfl | hy
    · exact h0
    · exact rpn_keys h2 y hy
end

/-! ### read and written -/
/-- w is a dict of ds with nested keys; b: viewed -/
inductive Dn (wd : World) (ka : Cells) : W → List (NestedKey × D) → Bool → Prop where
  | v {ds : List (NestedKey × D)} : Dn wd ka (.val (.din wd ds)) ds false
  | w {ds : List (NestedKey × D)} : Dn wd ka (.vw (.din wd ds)) ds true
  | ce {a : Addr} {ds : List (NestedKey × D)} (j : Nat) (h : ka[j]? = some (a, .din wd ds)) : Dn wd ka (.val (.adr a)) ds false
section
variable {wd : World} {K : PySem.W.Frag} {B B' F F' F0 : Hp} {ro ro' : Ro} {ka k1 k2 k3 kr : Cells} {ta : List (V × W)} {sg sg' : L2.St} {H H' : Hp} {te tf tg td ty tk tv : TE} {w x y z : W} {n m : Nd} {a : Addr} {b : Bool} {De : Ends} {t u : TS} {ds : List (NestedKey × D)} {k : NestedKey} {ks : List NestedKey} {d : D}
theorem Dn.get {v : V} (l : Dn wd ka w ds b) (e : EnF K B F ro ka ta sg H) (h : WOk K B F v w) : ∃ a xs, v = .ref a ∧ NAt K H wd a xs ∧ RpN K (if b then uni B F else F) ds xs := by
  cases l with
  | v =>
    obtain ⟨a, xs, rfl, h1, h2⟩ := h
    exact ⟨a, xs, rfl, ⟨e.fz.rd e.nz h1, fun x hx => ⟨RkN.mono e.fz e.nz _ _ (rpn_keys h2 x hx).1, (rpn_keys h2 x hx).2⟩⟩, h2⟩
  | w =>
    obtain ⟨a, xs, rfl, h1, h2⟩ := h
    have z := uni_exz e.fz e.fr
    have nz := uni_nz (B := B) e.nz
    exact ⟨a, xs, rfl, ⟨z.rd nz h1, fun x hx => ⟨RkN.mono z nz _ _ (rpn_keys h2 x hx).1, (rpn_keys h2 x hx).2⟩⟩, h2⟩
  | ce j hj =>
    obtain rfl : v = .ref _ := h
    obtain ⟨_, _, xs, h1, h2⟩ := e.ce _ (List.mem_of_getElem? hj)
    exact ⟨_, xs, rfl, ⟨.inl h1, fun x hx => ⟨RkN.mono e.fz e.nz _ _ (rpn_keys h2 x hx).1, (rpn_keys h2 x hx).2⟩⟩, h2⟩
/-- an expression that makes a new cell, as one that comes back with its place -/
theorem EvN.adr (h : EvN K te ro ka n k1) : EvR K te ro ka fun w k => ∃ c, w = .val (.adr c) ∧ k = k1 ++ [(c, n)] := fun B F0 ta sg H Q e q =>
  h B F0 ta sg H Q e fun c H' e1 => q _ _ _ _ ⟨c, rfl, rfl⟩ (e1.tmA c)
/-- a dict of nested keys, frozen -/
theorem En.freeze_n (e : En K B F0 ro (ka ++ [(a, .din wd ds)]) ta sg H) : En K B F0 ro ka ((.ref a, .val (.din wd ds)) :: ta) sg H := by
  obtain ⟨F, g, e⟩ := e
  obtain ⟨fa, ba, xs, ha, rl⟩ := e.ce (a, .din wd ds) (by simp)
  have gg : Gr B F (upd F a (DnO wd a xs)) := ⟨Sub.new fa, fun b h1 h2 => by
    have ne : b ≠ a := fun q => h2 (q ▸ ba)
    rw [upd_ne ne]
    exact h1⟩
  have nd2 := e.nd
  rw [List.map_append, List.nodup_append] at nd2
  refine ⟨_, g.trans gg, ⟨fun b u h => ?_, fun b u h => ?_, e.fr, nd2.1, fun q hq => ?_, e.ln, fun i w h => ?_, fun q hq => ?_⟩⟩
  · by_cases hb : b = a
    · subst hb; rw [upd_same] at h; cases h; rfl
    · rw [upd_ne hb] at h; exact e.nz b u h
  · by_cases hb : b = a
    · subst hb; rw [upd_same] at h; cases h; exact .inl ha
    · rw [upd_ne hb] at h; exact e.fz b u h
  · obtain ⟨h1, h2, h3⟩ := e.ce q (List.mem_append_left _ hq)
    have nq : q.1 ≠ a := fun z => nd2.2.2 q.1 (List.mem_map.mpr ⟨q, hq, rfl⟩) a (by simp) z
    exact ⟨by rw [upd_ne nq]; exact h1, h2, ndok_gr e.nz gg h3⟩
  · obtain ⟨v, h1, h2⟩ := e.sl i w h
    exact ⟨v, h1, wok_gr e.nz gg h2⟩
  · rcases List.mem_cons.mp hq with rfl | hq
    · exact ⟨a, xs, rfl, .inl upd_same, RpN.mono gg.sub.exz e.nz _ _ rl⟩
    · exact wok_gr e.nz gg (e.tm q hq)
theorem EvN.din (h : EvN K te ro ka (.din wd ds) k1) : EvD K te ro ka (.val (.din wd ds)) k1 := fun B F0 ta sg H Q e q => h B F0 ta sg H Q e fun a H1 e1 => q _ _ e1.freeze_n
end
end DL

/-! FL: searches by levels in plain Lean; sub-rows; what a machine has begun (own work). -/
namespace DL
open PySem L2 PySem.W

/-! ### sub-rows -/
def subs {α : Type} : List α → List (List α)
  | [] => [[]]
  | x :: xs => subs xs ++ (subs xs).map (x :: ·)
theorem subs_len {α : Type} : ∀ xs : List α, (subs xs).length = 2 ^ xs.length
  | [] => rfl
  | x :: xs => by
    rw [subs, List.length_append, List.length_map, subs_len xs, List.length_cons, Nat.pow_succ]
    omega
theorem flt_subs {α : Type} (p : α → Bool) : ∀ xs : List α, xs.filter p ∈ subs xs
  | [] => List.mem_singleton.mpr rfl
  | x :: xs => by
    rw [subs, List.filter_cons]
    split
    · exact List.mem_append_right _ (List.mem_map.mpr ⟨_, flt_subs p xs, rfl⟩)
    · exact List.mem_append_left _ (flt_subs p xs)
/-- different things out of a row are no more than it -/
theorem nd_sub {α : Type} [DecidableEq α] : ∀ {xs ys : List α}, xs.Nodup → (∀ x ∈ xs, x ∈ ys) → xs.length ≤ ys.length
  | [], _, _, _ => Nat.zero_le _
  | x :: xs, ys, hn, h => by
    have hx := h x List.mem_cons_self
    obtain ⟨h1, h2⟩ := List.nodup_cons.mp hn
    have := nd_sub (ys := ys.erase x) h2 fun y hy => (List.mem_erase_of_ne fun e => by subst e; exact h1 hy).mpr (h y (List.mem_cons_of_mem _ hy))
    rw [List.length_erase_of_mem hx] at this
    have := List.length_pos_of_mem hx
    rw [List.length_cons]
    omega

/-! ### ways along edges that have names -/
section
variable {α : Type} [DecidableEq α]
/-- from s by these names to v -/
inductive Pt (sc : α → List (Str × α)) (s : α) : List Str → α → Prop where
  | nil : Pt sc s [] s
  | snoc {ls : List Str} {x : α} {e : Str × α} (h : Pt sc s ls x) (he : e ∈ sc x) : Pt sc s (ls ++ [e.1]) e.2
/-- a search: the things met, each by a way; the first `at` are done, of the next the edges E -/
structure BIn (sc : α → List (Str × α)) (s : α) (at_ : Nat) (E : List (Str × α)) (qs : List (α × List Str)) : Prop where
  nd : (qs.map (·.1)).Nodup
  ini : qs[0]? = some (s, [])
  pt : ∀ q ∈ qs, Pt sc s q.2 q.1
  mono : ∀ (i j : Nat) (p q : α × List Str), i ≤ j → qs[i]? = some p → qs[j]? = some q → p.2.length ≤ q.2.length
  lev : ∀ c, qs[at_]? = some c → ∀ q ∈ qs, q.2.length ≤ c.2.length + 1
  cl : ∀ (i : Nat) (c : α × List Str), i < at_ → qs[i]? = some c → ∀ e ∈ sc c.1, ∃ q ∈ qs, q.1 = e.2 ∧ q.2.length ≤ c.2.length + 1
  cE : ∀ c, qs[at_]? = some c → ∀ e ∈ E, ∃ q ∈ qs, q.1 = e.2 ∧ q.2.length ≤ c.2.length + 1
variable {sc : α → List (Str × α)} {s : α} {at_ : Nat} {E : List (Str × α)} {qs : List (α × List Str)}
theorem BIn.start (sc : α → List (Str × α)) (s : α) : BIn sc s 0 [] [(s, [])] where
  nd := by simp
  ini := rfl
  pt := fun q hq => by
    rw [List.mem_singleton.mp hq]
    exact .nil
  mono := fun i j p q _ hp hq => by
    have h1 := List.mem_of_getElem? hp
    have h2 := List.mem_of_getElem? hq
    rw [List.mem_singleton.mp h1, List.mem_singleton.mp h2]
    exact Nat.le_refl _
  lev := fun c hc q hq => by
    rw [List.mem_singleton.mp hq]
    exact Nat.zero_le _
  cl := fun i c h => by omega
  cE := fun c _ e he => nomatch he
/-- an edge to what was met -/
theorem BIn.old (b : BIn sc s at_ E qs) {e : Str × α} (h : e.2 ∈ qs.map (·.1)) : BIn sc s at_ (E ++ [e]) qs := { b with
  cE := fun c hc e' he => by
    rcases List.mem_append.mp he with he | he
    · exact b.cE c hc e' he
    · rw [List.mem_singleton.mp he]
      obtain ⟨q, hq, e1⟩ := List.mem_map.mp h
      exact ⟨q, hq, e1, b.lev c hc q hq⟩ }
/-- an edge to a new thing -/
theorem BIn.new (b : BIn sc s at_ E qs) {c : α × List Str} (hc : qs[at_]? = some c) {e : Str × α} (he : e ∈ sc c.1) (h : e.2 ∉ qs.map (·.1)) : BIn sc s at_ (E ++ [e]) (qs ++ [(e.2, c.2 ++ [e.1])]) := by
  have hlt : at_ < qs.length := (List.getElem?_eq_some_iff.mp hc).1
  have old : ∀ {i : Nat} {x : α × List Str}, i < qs.length → (qs ++ [(e.2, c.2 ++ [e.1])])[i]? = some x → qs[i]? = some x := fun hi hx => by rwa [List.getElem?_append_left hi] at hx
  have hc' : ∀ x, (qs ++ [(e.2, c.2 ++ [e.1])])[at_]? = some x → x = c := fun x hx => by
    have := old hlt hx
    rw [hc] at this
    exact (Option.some.inj this).symm
  refine ⟨?_, ?_, fun q hq => ?_, fun i j p q hij hp hq => ?_, fun x hx q hq => ?_, fun i x hi hx e' he' => ?_, fun x hx e' he' => ?_⟩
  · rw [List.map_append, List.nodup_append]
    exact ⟨b.nd, by simp, fun x hx y hy => by
      rw [List.map_cons, List.map_nil, List.mem_singleton] at hy
      rintro rfl
      rw [hy] at hx
      exact h hx⟩
  · rw [List.getElem?_append_left (Nat.lt_of_le_of_lt (Nat.zero_le _) hlt)]
    exact b.ini
  · rcases List.mem_append.mp hq with hq | hq
    · exact b.pt q hq
    · rw [List.mem_singleton.mp hq]
      exact .snoc (b.pt c (List.mem_of_getElem? hc)) he
  · have key : ∀ {k : Nat} {x : α × List Str}, (qs ++ [(e.2, c.2 ++ [e.1])])[k]? = some x → (k < qs.length ∧ qs[k]? = some x) ∨ (k = qs.length ∧ x = (e.2, c.2 ++ [e.1])) := fun {k x} hx => by
      by_cases hk : k < qs.length
      · exact .inl ⟨hk, old hk hx⟩
      · have hk2 := (List.getElem?_eq_some_iff.mp hx).1
        rw [List.length_append, List.length_singleton] at hk2
        have hk3 : k = qs.length := by omega
        subst hk3
        rw [List.getElem?_append_right (Nat.le_refl _), Nat.sub_self] at hx
        exact .inr ⟨rfl, (Option.some.inj hx).symm⟩
    rcases key hp with ⟨h1, hp⟩ | ⟨h1, rfl⟩ <;> rcases key hq with ⟨h2, hq⟩ | ⟨h2, rfl⟩
    · exact b.mono i j p q hij hp hq
    · have := b.lev c hc p (List.mem_of_getElem? hp)
      rw [List.length_append, List.length_singleton]
      exact this
    · omega
    · exact Nat.le_refl _
  · rw [hc' x hx]
    rcases List.mem_append.mp hq with hq | hq
    · exact b.lev c hc q hq
    · rw [List.mem_singleton.mp hq, List.length_append]
      exact Nat.le_refl _
  · obtain ⟨q, hq, r⟩ := b.cl i x hi (old (by omega) hx) e' he'
    exact ⟨q, List.mem_append_left _ hq, r⟩
  · rw [hc' x hx]
    rcases List.mem_append.mp he' with he' | he'
    · obtain ⟨q, hq, r⟩ := b.cE c hc e' he'
      exact ⟨q, List.mem_append_left _ hq, r⟩
    · rw [List.mem_singleton.mp he']
      exact ⟨_, List.mem_append_right _ (List.mem_singleton.mpr rfl), rfl, by rw [List.length_append]; exact Nat.le_refl _⟩
/-- all edges of a thing are done -/
theorem BIn.next (b : BIn sc s at_ E qs) (hE : ∀ c, qs[at_]? = some c → ∀ e ∈ sc c.1, e ∈ E) (hlt : at_ < qs.length) : BIn sc s (at_ + 1) [] qs := by
  obtain ⟨c0, hc0⟩ : ∃ c, qs[at_]? = some c := ⟨_, List.getElem?_eq_getElem hlt⟩
  refine { b with lev := fun c hc q hq => ?_, cl := fun i c hi hc e he => ?_, cE := fun c _ e he => nomatch he }
  · have h1 := b.lev c0 hc0 q hq
    have h2 := b.mono at_ (at_ + 1) c0 c (Nat.le_succ _) hc0 hc
    omega
  · rcases Nat.lt_or_ge i at_ with h | h
    · exact b.cl i c h hc e he
    · have : i = at_ := by omega
      subst this
      exact b.cE c hc e (hE c hc e he)
/-- when all is done, all that can be met was met -/
theorem BIn.all (b : BIn sc s at_ [] qs) (h : qs.length ≤ at_) {ls : List Str} {v : α} (hp : Pt sc s ls v) : v ∈ qs.map (·.1) := by
  induction hp with
  | nil => exact List.mem_map.mpr ⟨_, List.mem_of_getElem? b.ini, rfl⟩
  | @snoc ls x e _ he ih =>
    obtain ⟨q, hq, rfl⟩ := List.mem_map.mp ih
    obtain ⟨i, hi⟩ := List.getElem?_of_mem hq
    have := (List.getElem?_eq_some_iff.mp hi).1
    obtain ⟨q', hq', e3, _⟩ := b.cl i q (by omega) hi e he
    exact List.mem_map.mpr ⟨q', hq', e3⟩
/-- things met out of a row: no more than it has -/
theorem BIn.few (b : BIn sc s at_ E qs) {N : List α} (h0 : s ∈ N) (hN : ∀ x ∈ N, ∀ e ∈ sc x, e.2 ∈ N) : qs.length ≤ N.length := by
  have := nd_sub (ys := N) b.nd fun x hx => by
    obtain ⟨q, hq, rfl⟩ := List.mem_map.mp hx
    have := b.pt q hq
    generalize q.1 = v at this
    generalize q.2 = ls at this
    induction this with
    | nil => exact h0
    | snoc _ he ih => exact hN _ ih _ he
  rwa [List.length_map] at this
end

/-! ### what is begun -/
def begM (m : Mc) (ps : List Nat) (x : Str) : List Nat := ((List.range m.at_.length).filter fun a => decide (a ∈ m.fi) || behM m ps a).filter fun a => tkM m a x
/-- the atoms by which the lane gone last is read -/
def stM (m : Mc) (ls : List Str) : List Nat := ls.foldl (begM m) []
end DL

/-! FM: dicts with nested keys: walked, copied (one entry), set beside the empty one (own work). -/
namespace DL
open PySem L2 PySem.W PyProof.Rows

section
variable {X : Cx} {pins : List (Addr × Obj)} {σ : L2.St} {H : Hp} {s : Shared} {d : Addr} {o : Obj} {xs : List (NestedKey × Addr × V)}
end
section
variable {X : Cx} {o i e tg : Expr} {pos pos' : Pos} {td ty tv tk : TE}
end

section
variable {K : PySem.W.Frag} {B F F0 : Hp} {ro : Ro} {ka k1 k2 k3 kr : Cells} {ta : List (V × W)} {sg : L2.St} {H H' : Hp} {te tf tg tk tv : TE} {tt : TT} {w x y : W} {n : Nd} {a : Addr} {b : Bool} {De : Ends} {u : TS} {wi : TI} {ws : List W}
end

/-! ### by data -/
section
variable {K : PySem.W.Frag} {B F F0 : Hp} {ro : Ro} {ka k1 k2 k3 kr : Cells} {ta : List (V × W)} {sg : L2.St} {H H' : Hp} {te tf tg tk tv : TE} {tt : TT} {w x y z : W} {a : Addr} {b : Bool} {wd : World} {ds : List (NestedKey × D)}
end
end DL

/-! FN: searches by levels of one distance; a machine told by a law (own work). -/
namespace DL
open PySem L2 PySem.W
section
variable {α : Type} [DecidableEq α] {sc : α → List (Str × α)} {s : α} {n : Nat} {L Kn N : List α} {G : α → Prop}
theorem pt_in (h0 : s ∈ N) (hN : ∀ x ∈ N, ∀ e ∈ sc x, e.2 ∈ N) {ls : List Str} {x : α} (h : Pt sc s ls x) : x ∈ N := by
  induction h with
  | nil => exact h0
  | snoc _ he ih => exact hN _ ih _ he
theorem pt_last {ls : List Str} {y : α} (h : Pt sc s ls y) : (ls = [] ∧ y = s) ∨ ∃ us x e, Pt sc s us x ∧ e ∈ sc x ∧ e.2 = y ∧ ls = us ++ [e.1] := by
  cases h with
  | nil => exact .inl ⟨rfl, rfl⟩
  | snoc h he => exact .inr ⟨_, _, _, h, he, rfl, rfl⟩
/-- L is what is met behind n steps and not earlier, Kn what is met behind n steps or earlier -/
structure LvI (sc : α → List (Str × α)) (s : α) (n : Nat) (L Kn : List α) : Prop where
  nd : Kn.Nodup
  sub : ∀ x ∈ L, x ∈ Kn
  ndL : L.Nodup
  pt : ∀ x ∈ L, ∃ ls, ls.length = n ∧ Pt sc s ls x
  rc : ∀ x ∈ Kn, ∃ ls, Pt sc s ls x
  kn : ∀ ls x, Pt sc s ls x → ls.length ≤ n → x ∈ Kn
  lv : ∀ x ∈ Kn, x ∈ L ∨ ∃ ls, ls.length < n ∧ Pt sc s ls x
theorem LvI.start (sc : α → List (Str × α)) (s : α) : LvI sc s 0 [s] [s] where
  nd := List.nodup_cons.mpr ⟨List.not_mem_nil, List.nodup_nil⟩
  ndL := List.nodup_cons.mpr ⟨List.not_mem_nil, List.nodup_nil⟩
  sub := fun _ h => h
  pt := fun x h => ⟨[], rfl, by rw [List.mem_singleton.mp h]; exact .nil⟩
  rc := fun x h => ⟨[], by rw [List.mem_singleton.mp h]; exact .nil⟩
  kn := fun ls x h hl => by
    rcases pt_last h with ⟨_, e⟩ | ⟨us, y, e, _, _, _, e2⟩
    · exact List.mem_singleton.mpr e
    · rw [e2, List.length_append, List.length_singleton] at hl
      omega
  lv := fun x h => .inl h
theorem LvI.next (h : LvI sc s n L Kn) {F : List α} (hF : ∀ y, y ∈ F ↔ ∃ x ∈ L, ∃ e ∈ sc x, e.2 = y) (nF : F.Nodup) {p : α → Bool} (hp : ∀ y, p y = true ↔ y ∉ Kn) : LvI sc s (n + 1) (F.filter p) (Kn ++ F.filter p) := by
  have new : ∀ x, x ∈ F.filter p ↔ x ∈ F ∧ x ∉ Kn := fun x => by rw [List.mem_filter, hp]
  have step : ∀ y ∈ F, ∃ ls, ls.length = n + 1 ∧ Pt sc s ls y := fun y hy => by
    obtain ⟨x, hx, e, he, rfl⟩ := (hF y).mp hy
    obtain ⟨ls, hl, hp⟩ := h.pt x hx
    exact ⟨ls ++ [e.1], by rw [List.length_append, hl]; rfl, hp.snoc he⟩
  refine ⟨?_, fun x hx => List.mem_append_right _ hx, nF.filter _, fun x hx => step x ((new x).mp hx).1, fun x hx => ?_, fun ls x hp hl => ?_, fun x hx => ?_⟩
  · rw [List.nodup_append]
    exact ⟨h.nd, nF.filter _, fun x hx y hy e => ((new y).mp hy).2 (e ▸ hx)⟩
  · rcases List.mem_append.mp hx with hx | hx
    · exact h.rc x hx
    · obtain ⟨ls, _, hp⟩ := step x ((new x).mp hx).1
      exact ⟨ls, hp⟩
  · by_cases hx : x ∈ Kn
    · exact List.mem_append_left _ hx
    · refine List.mem_append_right _ ((new x).mpr ⟨?_, hx⟩)
      rcases pt_last hp with ⟨e1, e2⟩ | ⟨us, y, e, hy, he, e2, e3⟩
      · exact absurd (h.kn [] x (by rw [e2]; exact .nil) (Nat.zero_le _)) hx
      · rw [e3, List.length_append, List.length_singleton] at hl
        rcases h.lv y (h.kn us y hy (by omega)) with hL | ⟨vs, hv, hy2⟩
        · exact (hF x).mpr ⟨y, hL, e, he, e2⟩
        · exact absurd (h.kn (vs ++ [e.1]) x (e2 ▸ hy2.snoc he) (by rw [List.length_append, List.length_singleton]; omega)) hx
  · rcases List.mem_append.mp hx with hx | hx
    · rcases h.lv x hx with hL | ⟨ls, hl, hp⟩
      · obtain ⟨ls, hl, hp⟩ := h.pt x hL
        exact .inr ⟨ls, by omega, hp⟩
      · exact .inr ⟨ls, by omega, hp⟩
    · exact .inl hx
theorem LvI.short (h : LvI sc s n [] Kn) : ∀ ls x, Pt sc s ls x → ∃ us, us.length < n ∧ Pt sc s us x := by
  intro ls x hp
  induction hp with
  | nil =>
    rcases h.lv s (h.kn [] s .nil (Nat.zero_le _)) with hL | hL
    · cases hL
    · exact hL
  | @snoc ls x e _ he ih =>
    obtain ⟨us, hu, hp⟩ := ih
    rcases h.lv e.2 (h.kn _ _ (hp.snoc he) (by rw [List.length_append, List.length_singleton]; omega)) with hL | hL
    · cases hL
    · exact hL
theorem LvI.few (h : LvI sc s n L Kn) (h0 : s ∈ N) (hN : ∀ x ∈ N, ∀ e ∈ sc x, e.2 ∈ N) : Kn.length ≤ N.length := nd_sub h.nd fun x hx => by
  obtain ⟨ls, hp⟩ := h.rc x hx
  exact pt_in h0 hN hp
end
/-! ### a machine as a law makes it -/
/-- the same machine, its parts in another order -/
structure McE (m n : Mc) : Prop where
  at_ : m.at_ = n.at_
  fi : ∀ a, a ∈ m.fi ↔ a ∈ n.fi
  la : ∀ a, a ∈ m.la ↔ a ∈ n.la
  pr : ∀ p, p ∈ m.pr ↔ p ∈ n.pr
  op : m.op = n.op
section
variable {m n : Mc}
theorem McE.tk (e : McE m n) (a : Nat) (x : Str) : tkM m a x = tkM n a x := by
  unfold tkM
  rw [e.at_]
theorem McE.beh (e : McE m n) (ps : List Nat) (a : Nat) : behM m ps a = behM n ps a := by
  unfold behM
  simp only [e.pr]
theorem McE.beg (e : McE m n) (ps : List Nat) (x : Str) : begM m ps x = begM n ps x := by
  unfold begM
  simp only [e.tk, e.beh, e.fi, e.at_]
theorem McE.done (e : McE m n) (ps : List Nat) : doneM m ps = doneM n ps := by
  unfold doneM
  simp only [e.la]
theorem McE.st (e : McE m n) (ls : List Str) : stM m ls = stM n ls := by
  unfold stM
  rw [show begM m = begM n from funext fun ps => funext fun x => e.beg ps x]
theorem McE.refl : McE m m := ⟨rfl, fun _ => Iff.rfl, fun _ => Iff.rfl, fun _ => Iff.rfl, rfl⟩
end
end DL

/-! FO: shortest words that part two machines, searched by levels, in plain Lean (own work). -/
namespace DL
open PySem L2 PySem.W

/-! ### sub-rows again -/
theorem subs_iff {α : Type} {xs ys : List α} : ys ∈ subs xs ↔ ys.Sublist xs := by
  induction xs generalizing ys with
  | nil => rw [subs, List.mem_singleton, List.sublist_nil]
  | cons x xs ih =>
    rw [subs, List.mem_append, List.mem_map]
    constructor
    · rintro (h | ⟨zs, h, rfl⟩)
      · exact (ih.mp h).cons _
      · exact (ih.mp h).cons_cons _
    · intro h
      cases h with
      | cons _ h => exact .inl (ih.mpr h)
      | cons_cons _ h => exact .inr ⟨_, ih.mpr h, rfl⟩
theorem mc_fi_sub : ∀ (t : Tr) (s : Nat), (mcT t s).fi.Sublist (List.range' s (mcT t s).at_.length)
  | .at k ns, s => List.Sublist.refl _
  | .rep a, s => mc_fi_sub a s
  | .opt a, s => mc_fi_sub a s
  | .either a b, s => by
    show ((mcT a s).fi ++ (mcT b (s + (mcT a s).at_.length)).fi).Sublist (List.range' s ((mcT a s).at_ ++ (mcT b (s + (mcT a s).at_.length)).at_).length)
    rw [List.length_append, ← List.range'_append_1]
    exact (mc_fi_sub a s).append (mc_fi_sub b _)
  | .join a b, s => by
    show (if (mcT a s).op then (mcT a s).fi ++ (mcT b (s + (mcT a s).at_.length)).fi else (mcT a s).fi).Sublist (List.range' s ((mcT a s).at_ ++ (mcT b (s + (mcT a s).at_.length)).at_).length)
    rw [List.length_append, ← List.range'_append_1]
    split
    · exact (mc_fi_sub a s).append (mc_fi_sub b _)
    · exact (mc_fi_sub a s).trans (List.sublist_append_left _ _)
theorem start_sub (t : Tr) (x : Str) : startM (mcT t 0) x ∈ subs (List.range (mcT t 0).at_.length) := by
  rw [subs_iff, List.range_eq_range']
  exact (List.filter_sublist).trans (mc_fi_sub t 0)
theorem after_sub (m : Mc) (ps : List Nat) (x : Str) : afterM m ps x ∈ subs (List.range m.at_.length) := flt_subs _ _

/-! ### words and what two machines make of them -/
abbrev P2 := List Nat × List Nat
def st2 (m n : Mc) (w : List Str) : P2 := (runM m w, runM n w)
def nx2 (m n : Mc) (p : P2) (x : Str) : P2 := (afterM m p.1 x, afterM n p.2 x)
theorem st2_snoc {m n : Mc} {w : List Str} {x : Str} (h : w ≠ []) : st2 m n (w ++ [x]) = nx2 m n (st2 m n w) x := by
  unfold st2 nx2
  rw [run_snoc h, run_snoc h]
/-- all pairs there can be -/
def p2All (m n : Mc) : List P2 := (subs (List.range m.at_.length)).flatMap fun a => (subs (List.range n.at_.length)).map fun b => (a, b)
theorem p2All_len (m n : Mc) : (p2All m n).length = 2 ^ m.at_.length * 2 ^ n.at_.length := by
  have key : ∀ (xs : List (List Nat)), (xs.flatMap fun a => (subs (List.range n.at_.length)).map fun b => (a, b)).length = xs.length * 2 ^ n.at_.length := fun xs => by
    induction xs with
    | nil => simp
    | cons x xs ih => rw [List.flatMap_cons, List.length_append, ih, List.length_map, subs_len, List.length_range, List.length_cons, Nat.add_mul, Nat.one_mul, Nat.add_comm]
  unfold p2All
  rw [key, subs_len, List.length_range]
theorem p2All_mem {m n : Mc} {p : P2} (h1 : p.1 ∈ subs (List.range m.at_.length)) (h2 : p.2 ∈ subs (List.range n.at_.length)) : p ∈ p2All m n :=
  List.mem_flatMap.mpr ⟨p.1, h1, List.mem_map.mpr ⟨p.2, h2, rfl⟩⟩
theorem st2_all (t u : Tr) {w : List Str} (h : w ≠ []) : st2 (mcT t 0) (mcT u 0) w ∈ p2All (mcT t 0) (mcT u 0) := by
  have key : ∀ (t : Tr) (w : List Str), w ≠ [] → runM (mcT t 0) w ∈ subs (List.range (mcT t 0).at_.length) := fun t w h => by
    obtain ⟨ys, y, rfl⟩ : ∃ ys y, w = ys ++ [y] := ⟨w.dropLast, w.getLast h, (List.dropLast_concat_getLast h).symm⟩
    by_cases e : ys = []
    · subst e
      exact start_sub t y
    · rw [run_snoc e]
      exact after_sub _ _ _
  exact p2All_mem (key t w h) (key u w h)

/-! ### the search -/
/-- words told so far; the first `at_` are done; ks: the pairs that were met -/
structure WIn (m n : Mc) (N : List Str) (at_ : Nat) (ks : List P2) (qs : List (List Str)) : Prop where
  ini : ∀ x ∈ N, [x] ∈ qs
  ne : ∀ q ∈ qs, q ≠ []
  mono : ∀ (i j : Nat) (p q : List Str), i ≤ j → qs[i]? = some p → qs[j]? = some q → p.length ≤ q.length
  lev : ∀ c, qs[at_]? = some c → ∀ q ∈ qs, q.length ≤ c.length + 1
  old : ∀ k ∈ ks, ∃ (j : Nat) (q : List Str), j < at_ ∧ qs[j]? = some q ∧ st2 m n q = k ∧ ∀ x ∈ N, q ++ [x] ∈ qs
  kn : ∀ (i : Nat) (c : List Str), i < at_ → qs[i]? = some c → st2 m n c ∈ ks
  cl : ∀ (i : Nat) (c : List Str), i < at_ → qs[i]? = some c → ∃ (j : Nat) (q : List Str), j ≤ i ∧ qs[j]? = some q ∧ st2 m n q = st2 m n c ∧ ∀ x ∈ N, q ++ [x] ∈ qs
  nd : ks.Nodup
  len : qs.length = N.length * (ks.length + 1)
  ll : ∀ q ∈ qs, q.length ≤ ks.length + 1
  lt : ∀ q ∈ qs, ∀ x ∈ q, x ∈ N
section
variable {m n : Mc} {N : List Str} {at_ : Nat} {ks : List P2} {qs : List (List Str)}
theorem WIn.start (m n : Mc) (N : List Str) : WIn m n N 0 [] (N.map fun x => [x]) where
  ini := fun x hx => List.mem_map.mpr ⟨x, hx, rfl⟩
  ne := fun q hq => by
    obtain ⟨x, _, rfl⟩ := List.mem_map.mp hq
    exact List.cons_ne_nil _ _
  mono := fun i j p q _ hp hq => by
    obtain ⟨x, _, rfl⟩ := List.mem_map.mp (List.mem_of_getElem? hp)
    obtain ⟨y, _, rfl⟩ := List.mem_map.mp (List.mem_of_getElem? hq)
    exact Nat.le_refl _
  lev := fun c _ q hq => by
    obtain ⟨x, _, rfl⟩ := List.mem_map.mp hq
    exact Nat.succ_le_succ (Nat.zero_le _)
  old := fun k hk => nomatch hk
  kn := fun i c h => absurd h (Nat.not_lt_zero _)
  cl := fun i c h => absurd h (Nat.not_lt_zero _)
  nd := List.nodup_nil
  len := by rw [List.length_map]; exact (Nat.mul_one _).symm
  ll := fun q hq => by
    obtain ⟨x, _, rfl⟩ := List.mem_map.mp hq
    exact Nat.le_refl _
  lt := fun q hq y hy => by
    obtain ⟨x, hx, rfl⟩ := List.mem_map.mp hq
    rw [List.mem_singleton.mp hy]
    exact hx
/-- a pair that was met -/
theorem WIn.again (b : WIn m n N at_ ks qs) {c : List Str} (hc : qs[at_]? = some c) (h : st2 m n c ∈ ks) : WIn m n N (at_ + 1) ks qs := { b with
  lev := fun d hd q hq => by
    have h1 := b.lev c hc q hq
    have h2 := b.mono at_ (at_ + 1) c d (Nat.le_succ _) hc hd
    omega
  old := fun k hk => by
    obtain ⟨j, q, h1, r⟩ := b.old k hk
    exact ⟨j, q, Nat.lt_succ_of_lt h1, r⟩
  kn := fun i d hi hd => by
    rcases Nat.lt_or_ge i at_ with g | g
    · exact b.kn i d g hd
    · have : i = at_ := by omega
      subst this
      rw [hc] at hd
      cases hd
      exact h
  cl := fun i d hi hd => by
    rcases Nat.lt_or_ge i at_ with g | g
    · exact b.cl i d g hd
    · have : i = at_ := by omega
      subst this
      rw [hc] at hd
      cases hd
      obtain ⟨j, q, h1, h2, h3, h4⟩ := b.old _ h
      exact ⟨j, q, Nat.le_of_lt h1, h2, h3, h4⟩ }
/-- a new pair -/
theorem WIn.new (b : WIn m n N at_ ks qs) {c : List Str} (hc : qs[at_]? = some c) (h : st2 m n c ∉ ks) : WIn m n N (at_ + 1) (ks ++ [st2 m n c]) (qs ++ N.map fun x => c ++ [x]) := by
  have hlt : at_ < qs.length := (List.getElem?_eq_some_iff.mp hc).1
  have up : ∀ {i : Nat} {x : List Str}, qs[i]? = some x → (qs ++ N.map fun x => c ++ [x])[i]? = some x := fun {i x} hx => by rwa [List.getElem?_append_left (List.getElem?_eq_some_iff.mp hx).1]
  have key : ∀ {k : Nat} {x : List Str}, (qs ++ N.map fun x => c ++ [x])[k]? = some x → (k < qs.length ∧ qs[k]? = some x) ∨ (qs.length ≤ k ∧ x.length = c.length + 1) := fun {k x} hx => by
    by_cases hk : k < qs.length
    · rw [List.getElem?_append_left hk] at hx
      exact .inl ⟨hk, hx⟩
    · rw [List.getElem?_append_right (Nat.le_of_not_lt hk)] at hx
      obtain ⟨y, _, rfl⟩ := List.mem_map.mp (List.mem_of_getElem? hx)
      exact .inr ⟨Nat.le_of_not_lt hk, by rw [List.length_append]; rfl⟩
  have low : ∀ {i : Nat} {x : List Str}, i < at_ + 1 → (qs ++ N.map fun x => c ++ [x])[i]? = some x → qs[i]? = some x := fun {i x} hi hx => by
    rcases key hx with ⟨_, h⟩ | ⟨h, _⟩
    · exact h
    · omega
  have le1 : ∀ {q : List Str}, q ∈ qs ++ N.map (fun x => c ++ [x]) → q.length ≤ c.length + 1 := fun {q} hq => by
    rcases List.mem_append.mp hq with hq | hq
    · exact b.lev c hc q hq
    · obtain ⟨y, _, rfl⟩ := List.mem_map.mp hq
      rw [List.length_append]
      exact Nat.le_refl _
  have own : ∀ x ∈ N, c ++ [x] ∈ qs ++ N.map (fun x => c ++ [x]) := fun x hx => List.mem_append_right _ (List.mem_map.mpr ⟨x, hx, rfl⟩)
  refine ⟨fun x hx => List.mem_append_left _ (b.ini x hx), fun q hq => ?_, fun i j p q hij hp hq => ?_, fun d hd q hq => ?_, fun k hk => ?_, fun i d hi hd => ?_, fun i d hi hd => ?_, ?_, ?_, fun q hq => ?_, fun q hq z hz => ?_⟩
  · rcases List.mem_append.mp hq with hq | hq
    · exact b.ne q hq
    · obtain ⟨y, _, rfl⟩ := List.mem_map.mp hq
      simp
  · rcases key hp with ⟨h1, hp⟩ | ⟨h1, e1⟩ <;> rcases key hq with ⟨h2, hq⟩ | ⟨h2, e2⟩
    · exact b.mono i j p q hij hp hq
    · rw [e2]
      exact b.lev c hc p (List.mem_of_getElem? hp)
    · omega
    · omega
  · have h1 := le1 hq
    have h2 : c.length ≤ d.length := by
      rcases key hd with ⟨_, hd⟩ | ⟨_, e⟩
      · exact b.mono at_ (at_ + 1) c d (Nat.le_succ _) hc hd
      · omega
    omega
  · rcases List.mem_append.mp hk with hk | hk
    · obtain ⟨j, q, h1, h2, h3, h4⟩ := b.old k hk
      exact ⟨j, q, Nat.lt_succ_of_lt h1, up h2, h3, fun x hx => List.mem_append_left _ (h4 x hx)⟩
    · rw [List.mem_singleton.mp hk]
      exact ⟨at_, c, Nat.lt_succ_self _, up hc, rfl, own⟩
  · have hd' := low hi hd
    rcases Nat.lt_or_ge i at_ with g | g
    · exact List.mem_append_left _ (b.kn i d g hd')
    · have : i = at_ := by omega
      subst this
      rw [hc] at hd'
      cases hd'
      exact List.mem_append_right _ (List.mem_singleton.mpr rfl)
  · have hd' := low hi hd
    rcases Nat.lt_or_ge i at_ with g | g
    · obtain ⟨j, q, h1, h2, h3, h4⟩ := b.cl i d g hd'
      exact ⟨j, q, h1, up h2, h3, fun x hx => List.mem_append_left _ (h4 x hx)⟩
    · have : i = at_ := by omega
      subst this
      rw [hc] at hd'
      cases hd'
      exact ⟨i, c, Nat.le_refl _, up hc, rfl, own⟩
  · rw [List.nodup_append]
    exact ⟨b.nd, by simp, fun x hx y hy => by
      rintro rfl
      rw [List.mem_singleton.mp hy] at hx
      exact h hx⟩
  · rw [List.length_append, List.length_map, b.len, List.length_append, List.length_singleton, Nat.mul_succ N.length (ks.length + 1)]
  · rw [List.length_append, List.length_singleton]
    rcases List.mem_append.mp hq with hq | hq
    · exact Nat.le_succ_of_le (b.ll q hq)
    · obtain ⟨y, _, rfl⟩ := List.mem_map.mp hq
      rw [List.length_append]
      exact Nat.succ_le_succ (b.ll c (List.mem_of_getElem? hc))
  · rcases List.mem_append.mp hq with hq | hq
    · exact b.lt q hq z hz
    · obtain ⟨y, hy, rfl⟩ := List.mem_map.mp hq
      rcases List.mem_append.mp hz with hz | hz
      · exact b.lt c (List.mem_of_getElem? hc) z hz
      · rw [List.mem_singleton.mp hz]
        exact hy
/-- every word is met, or one no longer is still to come -/
theorem WIn.met (b : WIn m n N at_ ks qs) {w : List Str} (hne : w ≠ []) (hN : ∀ x ∈ w, x ∈ N) : ∃ (i : Nat) (q : List Str), qs[i]? = some q ∧ q.length ≤ w.length ∧ ((i < at_ ∧ st2 m n q = st2 m n w) ∨ at_ ≤ i) := by
  induction w using list_snoc_ind with
  | nil => exact absurd rfl hne
  | snoc w x ih =>
    have hx := hN x (List.mem_append_right _ (List.mem_singleton.mpr rfl))
    have fin : ∀ q, q ∈ qs → q.length ≤ (w ++ [x]).length → st2 m n q = st2 m n (w ++ [x]) → ∃ (i : Nat) (q : List Str), qs[i]? = some q ∧ q.length ≤ (w ++ [x]).length ∧ ((i < at_ ∧ st2 m n q = st2 m n (w ++ [x])) ∨ at_ ≤ i) := fun q hq hl he => by
      obtain ⟨i, hi⟩ := List.getElem?_of_mem hq
      rcases Nat.lt_or_ge i at_ with g | g
      · exact ⟨i, q, hi, hl, .inl ⟨g, he⟩⟩
      · exact ⟨i, q, hi, hl, .inr g⟩
    by_cases e : w = []
    · subst e
      exact fin [x] (b.ini x hx) (Nat.le_refl _) rfl
    · obtain ⟨i, q, hq, hl, h | h⟩ := ih e fun y hy => hN y (List.mem_append_left _ hy)
      · obtain ⟨j, p, h1, h2, h3, h4⟩ := b.cl i q h.1 hq
        have hp := List.mem_of_getElem? h2
        have hpl := b.mono j i p q h1 h2 hq
        refine fin (p ++ [x]) (h4 x hx) ?_ ?_
        · rw [List.length_append, List.length_append, List.length_singleton]
          omega
        · rw [st2_snoc (b.ne p hp), st2_snoc e, h3, h.2]
      · exact ⟨i, q, hq, by rw [List.length_append]; omega, .inr h⟩
theorem WIn.none (b : WIn m n N at_ ks qs) {G : P2 → Prop} (no : ∀ k ∈ ks, ¬ G k) (h : qs.length ≤ at_) {w : List Str} (hne : w ≠ []) (hN : ∀ x ∈ w, x ∈ N) : ¬ G (st2 m n w) := fun hg => by
  obtain ⟨i, q, hq, hl, g | g⟩ := b.met hne hN
  · exact no _ (b.kn i q g.1 hq) (g.2 ▸ hg)
  · have := (List.getElem?_eq_some_iff.mp hq).1
    omega
end

section
variable {t u : Tr} {one : Bool} {N : List Str} {f : Str} {at_ : Nat} {ks : List P2} {qs : List (List Str)}
end

end DL

/-! FP: what machines of like trees make of words; how many pairs there are; how many ends (own work). -/
namespace DL
open PySem L2 PySem.W

section
variable {m n : Mc}
end
theorem run_rep2 (a : Tr) (w : List Str) : runM (mcT (.rep (.rep a)) 0) w = runM (mcT (.rep a) 0) w := by
  have af : ∀ ps x, afterM (mcT (.rep (.rep a)) 0) ps x = afterM (mcT (.rep a) 0) ps x := fun ps x => by
    refine List.filter_congr fun b _ => ?_
    have : behM (mcT (.rep (.rep a)) 0) ps b = behM (mcT (.rep a) 0) ps b := by
      unfold behM
      rw [Bool.eq_iff_iff, List.any_eq_true, List.any_eq_true]
      constructor
      · rintro ⟨p, hp, h⟩
        refine ⟨p, hp, decide_eq_true ?_⟩
        rcases List.mem_append.mp (of_decide_eq_true h) with h | h
        · exact h
        · exact List.mem_append_right _ h
      · rintro ⟨p, hp, h⟩
        exact ⟨p, hp, decide_eq_true (List.mem_append_left _ (of_decide_eq_true h))⟩
    rw [this]
    rfl
  have fold : ∀ (r : List Str) (ps : List Nat), r.foldl (afterM (mcT (.rep (.rep a)) 0)) ps = r.foldl (afterM (mcT (.rep a) 0)) ps := fun r => by
    induction r with
    | nil => exact fun _ => rfl
    | cons x r ih => exact fun ps => by rw [List.foldl_cons, List.foldl_cons, af, ih]
  cases w with
  | nil => rfl
  | cons x r => exact fold r _

/-! ### how many pairs there are -/
/-- all that two machines make of words stands in a row of c pairs -/
def PrOk (t u : Tr) (c : Nat) : Prop := ∃ PA : List P2, PA.length ≤ c ∧ ∀ w, w ≠ [] → st2 (mcT t 0) (mcT u 0) w ∈ PA
theorem PrOk.up {t u : Tr} {c d : Nat} (h : PrOk t u c) (hd : c ≤ d) : PrOk t u d := by
  obtain ⟨PA, h1, h2⟩ := h
  exact ⟨PA, by omega, h2⟩
theorem PrOk.all (t u : Tr) : PrOk t u (2 ^ t.ats * 2 ^ u.ats) := ⟨p2All (mcT t 0) (mcT u 0), by rw [p2All_len, mc_at_len, mc_at_len]; exact Nat.le_refl _, fun w h => st2_all t u h⟩
theorem PrOk.swap {t u : Tr} {c : Nat} (h : PrOk t u c) : PrOk u t c := by
  obtain ⟨PA, h1, h2⟩ := h
  exact ⟨PA.map fun p => (p.2, p.1), by rw [List.length_map]; exact h1, fun w hw => List.mem_map.mpr ⟨_, h2 w hw, rfl⟩⟩
/-- what the second makes is told by what others make -/
theorem PrOk.by {t u v : Tr} {c : Nat} (h : PrOk t v c) (f : P2 → List Nat) (hf : ∀ w, runM (mcT u 0) w = f (st2 (mcT t 0) (mcT v 0) w)) : PrOk t u c := by
  obtain ⟨PA, h1, h2⟩ := h
  exact ⟨PA.map fun p => (p.1, f p), by rw [List.length_map]; exact h1, fun w hw => List.mem_map.mpr ⟨_, h2 w hw, by unfold st2; rw [hf]; rfl⟩⟩
theorem PrOk.same (t : Tr) : PrOk t t (2 ^ t.ats) := by
  refine ⟨(subs (List.range (mcT t 0).at_.length)).map fun a => (a, a), by rw [List.length_map, subs_len, List.length_range, mc_at_len]; exact Nat.le_refl _, fun w hw => List.mem_map.mpr ⟨runM (mcT t 0) w, ?_, rfl⟩⟩
  have := st2_all t t hw
  obtain ⟨a, ha, h⟩ := List.mem_flatMap.mp this
  obtain ⟨b, hb, e⟩ := List.mem_map.mp h
  rw [← show a = runM (mcT t 0) w from congrArg Prod.fst e]
  exact ha
theorem PrOk.opt (t : Tr) : PrOk t (.opt t) (2 ^ t.ats) := (PrOk.same t).by (fun p => p.2) fun w => rfl
theorem PrOk.rep (t : Tr) : PrOk (.rep t) (.rep (.rep t)) (2 ^ t.ats) := (PrOk.same (.rep t)).by (fun p => p.2) fun w => run_rep2 t w
/-! ### how many ends there are -/
def EB (n : Nat) : Tr → Nat
  | .at _ _ => 1
  | .either a b => EB n a + EB n b
  | .opt a => EB n a + 1
  | .join a b => (n + 1) * EB n b
  | .rep a => n + 1
/-- the rows stay short -/
def EbOk (n : Nat) : Tr → Prop
  | .at _ _ => True
  | .either a b => EbOk n a ∧ EbOk n b ∧ EB n a + EB n b ≤ 90000
  | .opt a => EbOk n a ∧ EB n a + 1 ≤ 90000
  | .join a b => EbOk n a ∧ EbOk n b ∧ EB n a ≤ 50000 ∧ (n + 1) * EB n b ≤ 90000
  | .rep a => EbOk n a ∧ EB n a ≤ 90000
theorem EB_dep {n : Nat} (hn : 1 ≤ n) : ∀ {t : Tr}, (t.dep = 0 → EB n t ≤ 1) ∧ (t.dep ≤ 1 → EB n t ≤ n + 1) ∧ (t.dep ≤ 2 → EB n t ≤ (n + 1) * (n + 1))
  | .at kd ns => ⟨fun _ => Nat.le_refl _, fun _ => by show 1 ≤ _; omega, fun _ => by show 1 ≤ _; exact Nat.mul_pos (by omega) (by omega)⟩
  | .rep a => by
    refine ⟨fun h => (by cases h), fun h => Nat.le_refl _, fun h => ?_⟩
    show n + 1 ≤ (n + 1) * (n + 1)
    exact Nat.le_mul_of_pos_right _ (by omega)
  | .opt a => by
    obtain ⟨h0, h1, h2⟩ := EB_dep hn (t := a)
    refine ⟨fun h => (by cases h), fun h => ?_, fun h => ?_⟩
    · have := h0 (by have : a.dep + 1 ≤ 1 := h; omega)
      show EB n a + 1 ≤ _
      omega
    · have := h1 (by have : a.dep + 1 ≤ 2 := h; omega)
      show EB n a + 1 ≤ (n + 1) * (n + 1)
      have e : (n + 1) * (n + 1) = n * (n + 1) + (n + 1) := Nat.succ_mul n (n + 1)
      have : 1 ≤ n * (n + 1) := Nat.mul_pos (by omega) (by omega)
      omega
  | .either a b => by
    obtain ⟨h0, h1, h2⟩ := EB_dep hn (t := a)
    obtain ⟨g0, g1, g2⟩ := EB_dep hn (t := b)
    refine ⟨fun h => (by cases h), fun h => ?_, fun h => ?_⟩
    · have h : max a.dep b.dep + 1 ≤ 1 := h
      have := h0 (by omega)
      have := g0 (by omega)
      show EB n a + EB n b ≤ _
      omega
    · have h : max a.dep b.dep + 1 ≤ 2 := h
      have := h1 (by omega)
      have := g1 (by omega)
      show EB n a + EB n b ≤ (n + 1) * (n + 1)
      have e : (n + 1) * (n + 1) = n * (n + 1) + (n + 1) := Nat.succ_mul n (n + 1)
      have : 1 * (n + 1) ≤ n * (n + 1) := Nat.mul_le_mul_right _ hn
      omega
  | .join a b => by
    obtain ⟨h0, h1, h2⟩ := EB_dep hn (t := a)
    obtain ⟨g0, g1, g2⟩ := EB_dep hn (t := b)
    refine ⟨fun h => (by cases h), fun h => ?_, fun h => ?_⟩
    · have h : max a.dep b.dep + 1 ≤ 1 := h
      have := g0 (by omega)
      show (n + 1) * EB n b ≤ n + 1
      calc (n + 1) * EB n b ≤ (n + 1) * 1 := Nat.mul_le_mul_left _ this
        _ = n + 1 := Nat.mul_one _
    · have h : max a.dep b.dep + 1 ≤ 2 := h
      have := g1 (by omega)
      exact Nat.mul_le_mul_left _ this
theorem sq_le {n : Nat} (h : n ≤ 256) : (n + 1) * (n + 1) ≤ 66049 := Nat.le_trans (Nat.mul_le_mul (show n + 1 ≤ 257 by omega) (show n + 1 ≤ 257 by omega)) (by decide)
/-- trees of at most two nested operators -/
theorem EbOk.dep {n : Nat} (h1 : 1 ≤ n) (hn : n ≤ 256) : ∀ {t : Tr}, t.dep ≤ 2 → EbOk n t
  | .at kd ns, _ => trivial
  | .rep a, h => by
    have h : a.dep + 1 ≤ 2 := h
    have := (EB_dep h1 (t := a)).2.1 (by omega)
    exact ⟨EbOk.dep h1 hn (by omega), by omega⟩
  | .opt a, h => by
    have h : a.dep + 1 ≤ 2 := h
    have := (EB_dep h1 (t := a)).2.1 (by omega)
    exact ⟨EbOk.dep h1 hn (by omega), by omega⟩
  | .either a b, h => by
    have h : max a.dep b.dep + 1 ≤ 2 := h
    have := (EB_dep h1 (t := a)).2.1 (by omega)
    have := (EB_dep h1 (t := b)).2.1 (by omega)
    exact ⟨EbOk.dep h1 hn (by omega), EbOk.dep h1 hn (by omega), by omega⟩
  | .join a b, h => by
    have h : max a.dep b.dep + 1 ≤ 2 := h
    have h3 := (EB_dep h1 (t := a)).2.1 (by omega)
    have h4 := (EB_dep h1 (t := b)).2.1 (by omega)
    have := sq_le hn
    exact ⟨EbOk.dep h1 hn (by omega), EbOk.dep h1 hn (by omega), by omega, Nat.le_trans (Nat.mul_le_mul_left _ h4) (by omega)⟩
theorem EB_mono {n m : Nat} (h : n ≤ m) : ∀ t : Tr, EB n t ≤ EB m t
  | .at _ _ => Nat.le_refl _
  | .either a b => Nat.add_le_add (EB_mono h a) (EB_mono h b)
  | .opt a => Nat.succ_le_succ (EB_mono h a)
  | .join a b => Nat.mul_le_mul (Nat.succ_le_succ h) (EB_mono h b)
  | .rep a => Nat.succ_le_succ h
theorem EbOk.mono {n m : Nat} (h : n ≤ m) : ∀ {t : Tr}, EbOk m t → EbOk n t
  | .at _ _, _ => trivial
  | .either a b, ⟨h1, h2, h3⟩ => ⟨h1.mono h, h2.mono h, Nat.le_trans (Nat.add_le_add (EB_mono h a) (EB_mono h b)) h3⟩
  | .opt a, ⟨h1, h3⟩ => ⟨h1.mono h, Nat.le_trans (Nat.succ_le_succ (EB_mono h a)) h3⟩
  | .join a b, ⟨h1, h2, h3, h4⟩ => ⟨h1.mono h, h2.mono h, Nat.le_trans (EB_mono h a) h3, Nat.le_trans (Nat.mul_le_mul (Nat.succ_le_succ h) (EB_mono h b)) h4⟩
  | .rep a, ⟨h1, h3⟩ => ⟨h1.mono h, Nat.le_trans (EB_mono h a) h3⟩

/-- a second tree beside a first one, as the law draws it -/
structure SecT (t u : Tr) : Prop where
  nt : niceT t
  nu : niceT u
  dt : t.dep ≤ 3
  du : u.dep ≤ 3
  at1 : t.ats ≤ 8
  at2 : u.ats ≤ 8
  pr : PrOk t u 256
  e1 : EbOk 256 t
  e2 : EbOk 256 u
theorem SecT.swap {t u : Tr} (h : SecT t u) : SecT u t := ⟨h.nu, h.nt, h.du, h.dt, h.at2, h.at1, h.pr.swap, h.e2, h.e1⟩
section
variable {t : Tr} (nt : niceT t) (dt : t.dep ≤ 2)
include nt dt
end
theorem EvNR.lstR {K : PySem.W.Frag} {ro : Ro} {ka : Cells} {te : TE} {R : Nd → Cells → Prop} (h : EvNR K te ro ka R) (hR : ∀ n k, R n k → ∃ ds, n = .lst ds) : EvR K te ro ka (fun w k => ∃ ds, R (.lst ds) k ∧ w = .val (.lst ds)) := fun B F0 ta sg H Q e q => h B F0 ta sg H Q e fun n k a H1 r e1 => by
  obtain ⟨ds, rfl⟩ := hR n k r
  exact q _ _ _ _ ⟨ds, r, rfl⟩ e1.freeze_l
end DL

/-! FQ: {y: [] for y in ..} and {(y, ()): [] for y in ..} with nested keys, over lists, tuples and dicts; the library's DictComp_goesN with the hand layer's state at each turn (own work). -/
namespace DL
open PySem L2 PySem.W PyProof.Rows

/-- where the things come from -/
inductive DcOver (K : PySem.W.Frag) (H : Hp) (w : World) (l : Addr) (xs : List V) : Prop where
  | lst (h : SqL K H l xs)
  | tup (h : SqT K H l xs)
  | nest (rs : List (NestedKey × Addr × V)) (h : NAt K H w l rs) (e : xs = rs.map fun r => .ref r.2.1)
section
variable {X : Cx}
end
end DL

/-! FR: rules by data: {y: [] ..} with nested keys, list.pop, frozen dicts of lists with nested keys, dicts keyed by numbers (own work). -/
namespace DL
open PySem L2 PySem.W PyProof.Rows

section
variable {wd : World} {K : PySem.W.Frag} {B F F0 : Hp} {ro : Ro} {ka k1 k2 : Cells} {ta : List (V × W)} {sg : L2.St} {H : Hp} {te : TE} {w0 : W}
end

section
variable {wd : World} {K : PySem.W.Frag} {B F F0 : Hp} {ro : Ro} {ka k1 k2 k3 : Cells} {ta : List (V × W)} {sg : L2.St} {H : Hp} {te td ty tk tv tf : TE} {tt : TT} {tr : TA} {w x y : W} {a C : Addr} {b : Bool} {De : Ends} {u : TS} {E : XK} {P : W → Cells → Prop} {ds : List (Key × D)} {c : Key} {d : D} {n : Nd}
/-! ### an own object called -/
theorem Fn.fr {Pg : Program} {mg : Str → Option Value} {base : Heap} {k : Nat} {f : Addr} {ps : List Str} {Cc : Ct} (F : Fn Pg wd K mg base k f ps Cc) : FnR Pg wd K mg base (L2.CX Pg wd) k f (spC K Cc) := by
  obtain ⟨fd, F, hb⟩ := F
  exact (F.raw hb .nil).imp fun vs H Q E h => by rw [List.append_nil]; exact h
/-! ### frozen: a dict of nested keys with what stands behind -/
def FzN (K : PySem.W.Frag) (kt : Cells) : List (NestedKey × D) → List (NestedKey × D) → Prop
  | [], es => es = []
  | (k, d) :: ds, es => ∃ e r, es = (k, e) :: r ∧ FzR K kt d e ∧ FzN K kt ds r
theorem FzN.rp {kt : Cells} (nz : Nz F) (t : Thw K F H kt) : ∀ {ds es : List (NestedKey × D)} {xs : List (NestedKey × Addr × V)}, FzN K kt ds es → RpN K F ds xs → RpN K (thF F H kt) es xs
  | [], es, xs, z, h => by
    obtain rfl : es = [] := z
    exact h
  | (k, d) :: ds, es, xs, ⟨e, r, e1, z1, z2⟩, ⟨bb, x, ys, e2, h0, h1, h2⟩ => by
    subst e1
    exact ⟨bb, x, ys, e2, ⟨RkN.mono (thF_sub t.no).exz nz _ _ h0.1, h0.2⟩, z1.rp nz t h1, FzN.rp nz t z2 h2⟩
def FzK (K : PySem.W.Frag) (kt : Cells) : List (Key × D) → List (Key × D) → Prop
  | [], es => es = []
  | (k, d) :: ds, es => ∃ e r, es = (k, e) :: r ∧ FzR K kt d e ∧ FzK K kt ds r
theorem FzK.rp {kt : Cells} (nz : Nz F) (t : Thw K F H kt) : ∀ {ds es : List (Key × D)} {xs : List (Key × V)}, FzK K kt ds es → RpK K F ds xs → RpK K (thF F H kt) es xs
  | [], es, xs, z, h => by
    obtain rfl : es = [] := z
    exact h
  | (k, d) :: ds, es, xs, ⟨e, r, e1, z1, z2⟩, ⟨x, ys, e2, h1, h2⟩ => by
    subst e1
    exact ⟨x, ys, e2, z1.rp nz t h1, FzK.rp nz t z2 h2⟩
end
end DL

/-! FS: walks through all things, deepest first; lots of things that lead to one another, numbered; in plain Lean (own work). -/
namespace DL
section
variable {α : Type} [DecidableEq α]
/-- in n steps from x to y -/
inductive LdN (adj : α → List α) : Nat → α → α → Prop where
  | nil (x : α) : LdN adj 0 x x
  | cons {n : Nat} {x y z : α} (h : y ∈ adj x) (t : LdN adj n y z) : LdN adj (n + 1) x z
def Ld (adj : α → List α) (x y : α) : Prop := ∃ n, LdN adj n x y
variable {adj : α → List α}
theorem Ld.refl (x : α) : Ld adj x x := ⟨0, .nil x⟩
theorem Ld.step {x y : α} (h : y ∈ adj x) : Ld adj x y := ⟨1, .cons h (.nil y)⟩
theorem LdN.app {n m : Nat} {x y z : α} (h : LdN adj n x y) (t : LdN adj m y z) : ∃ k, LdN adj k x z := by
  induction h with
  | nil x => exact ⟨_, t⟩
  | cons h _ ih =>
    obtain ⟨k, hk⟩ := ih t
    exact ⟨_, .cons h hk⟩
theorem Ld.trans {x y z : α} (h : Ld adj x y) (t : Ld adj y z) : Ld adj x z := h.elim fun _ h => t.elim fun _ t => h.app t
theorem Ld.tail {x y z : α} (h : Ld adj x y) (t : z ∈ adj y) : Ld adj x z := h.trans (.step t)
theorem LdN.in_ {n : Nat} {x y : α} {V : List α} (h : LdN adj n x y) (cl : ∀ x ∈ V, ∀ y ∈ adj x, y ∈ V) (hx : x ∈ V) : y ∈ V := by
  induction h with
  | nil x => exact hx
  | cons h _ ih => exact ih (cl _ hx _ h)
/-- out of a set, there is a step -/
theorem LdN.cross {S : α → Prop} : ∀ {n : Nat} {x r : α}, LdN adj n x r → S x → ¬ S r → ∃ a b m, S a ∧ b ∈ adj a ∧ ¬ S b ∧ m < n ∧ LdN adj m b r ∧ Ld adj x b := by
  intro n
  induction n with
  | zero =>
    intro x r h hx hr
    cases h
    exact absurd hx hr
  | succ n ih =>
    intro x r h hx hr
    cases h with
    | @cons _ _ y _ hy t =>
      by_cases sy : S y
      · obtain ⟨a, b, m, h1, h2, h3, h4, h5, h6⟩ := ih t sy hr
        exact ⟨a, b, m, h1, h2, h3, by omega, h5, (Ld.step hy).trans h6⟩
      · exact ⟨x, y, n, hx, hy, sy, Nat.lt_succ_self _, t, .step hy⟩

/-! ### the order in which things are left -/
/-- all that is left by a moment leads to what is left by then, or to what leads to the one left then -/
def FinO (adj : α → List α) (order : List α) : Prop := ∀ (p : Nat) (x : α), order[p]? = some x → ∀ a ∈ order.take (p + 1), ∀ b ∈ adj a, b ∈ order.take (p + 1) ∨ Ld adj b x
/-- the last one left of all that are reached leads back -/
theorem FinO.back {order : List α} (F : FinO adj order) (nd : order.Nodup) (cl : ∀ x ∈ order, ∀ y ∈ adj x, y ∈ order) : ∀ (n : Nat) {x r : α}, x ∈ order → LdN adj n x r → (∀ z, Ld adj x z → order.idxOf z ≤ order.idxOf r) → Ld adj r x := by
  intro n
  induction n using Nat.strongRecOn with
  | _ n ih =>
    intro x r hx h mx
    have hr : r ∈ order := h.in_ cl hx
    have hp := List.idxOf_lt_length_of_mem hx
    have at_ : order[order.idxOf x]? = some x := by rw [List.getElem?_eq_getElem hp]; exact congrArg some (List.getElem_idxOf hp)
    have tk : ∀ {z : α}, z ∈ order.take (order.idxOf x + 1) ↔ z ∈ order ∧ order.idxOf z ≤ order.idxOf x := fun {z} => by
      constructor
      · intro hz
        have hz2 := List.mem_of_mem_take hz
        refine ⟨hz2, ?_⟩
        obtain ⟨i, hi⟩ := List.getElem?_of_mem hz
        rw [List.getElem?_take] at hi
        split at hi
        · rename_i lt
          have hl := (List.getElem?_eq_some_iff.mp hi).1
          have e := (List.getElem?_eq_some_iff.mp hi).2
          have : order.idxOf z = i := by
            have q := List.getElem_idxOf (List.idxOf_lt_length_of_mem hz2)
            exact (List.getElem_inj nd).mp (q.trans e.symm)
          omega
        · cases hi
      · rintro ⟨hz, hle⟩
        have hl := List.idxOf_lt_length_of_mem hz
        refine List.mem_of_getElem? (i := order.idxOf z) ?_
        rw [List.getElem?_take, if_pos (by omega), List.getElem?_eq_getElem hl]
        exact congrArg some (List.getElem_idxOf hl)
    by_cases hrt : r ∈ order.take (order.idxOf x + 1)
    · have h1 := (tk.mp hrt).2
      have h2 := mx x (Ld.refl x)
      have e : order.idxOf r = order.idxOf x := by omega
      have : r = x := by
        have q1 := List.getElem_idxOf (List.idxOf_lt_length_of_mem hr)
        have q2 := List.getElem_idxOf hp
        simp only [e] at q1
        exact q1.symm.trans q2
      rw [this]
      exact Ld.refl x
    · obtain ⟨a, b, m, h1, h2, h3, h4, h5, h6⟩ := h.cross (S := fun z => z ∈ order.take (order.idxOf x + 1)) (tk.mpr ⟨hx, Nat.le_refl _⟩) hrt
      have hb : b ∈ order := cl _ (List.mem_of_mem_take h1) _ h2
      rcases F _ x at_ a h1 b h2 with z | z
      · exact absurd z h3
      · exact (ih m h4 hb h5 fun z hz => mx z (h6.trans hz)).trans z
/-- on the way: what is left, what is known, what is open (the next place of each) -/
structure DfI (adj : α → List α) (V order known : List α) (stack : List (α × Nat)) : Prop where
  kn : ∀ x, x ∈ known ↔ x ∈ order ∨ x ∈ stack.map (·.1)
  nd : (order ++ stack.map (·.1)).Nodup
  kd : known.Nodup
  inV : ∀ x ∈ known, x ∈ V
  fin : ∀ a ∈ order, ∀ b ∈ adj a, b ∈ known
  F : FinO adj order
  ch : ∀ (pre post : List (α × Nat)) (s t : α × Nat), stack = pre ++ s :: t :: post → t.1 ∈ adj s.1
  pl : ∀ s ∈ stack, s.2 ≤ (adj s.1).length ∧ ∀ j b, j < s.2 → (adj s.1)[j]? = some b → b ∈ known
section
variable {V order known : List α} {stack : List (α × Nat)}
theorem list_nil_or_snoc {β : Type} (xs : List β) : xs = [] ∨ ∃ ys y, xs = ys ++ [y] := by
  by_cases h : xs = []
  · exact .inl h
  · exact .inr ⟨xs.dropLast, xs.getLast h, (List.dropLast_concat_getLast h).symm⟩
theorem snoc_split {β : Type} {xs pre post : List β} {x s t : β} (h : xs ++ [x] = pre ++ s :: t :: post) : (∃ post', xs = pre ++ s :: t :: post') ∨ (xs = pre ++ [s] ∧ x = t) := by
  rcases list_nil_or_snoc post with rfl | ⟨post', y, rfl⟩
  · right
    have h2 : xs ++ [x] = (pre ++ [s]) ++ [t] := by rw [h, List.append_assoc]; rfl
    exact ⟨List.append_inj_left' h2 rfl, by have := List.append_inj_right' h2 rfl; exact List.cons.inj this |>.1⟩
  · left
    have h2 : xs ++ [x] = (pre ++ s :: t :: post') ++ [y] := by rw [h, List.append_assoc]; rfl
    exact ⟨post', List.append_inj_left' h2 rfl⟩
/-- the top's next one is known -/
theorem DfI.old {st : List (α × Nat)} {s : α} {i : Nat} {b : α} (I : DfI adj V order known (st ++ [(s, i)])) (hb : (adj s)[i]? = some b) (hk : b ∈ known) : DfI adj V order known (st ++ [(s, i + 1)]) where
  kn := fun x => by
    have := I.kn x
    rw [List.map_append] at this ⊢
    exact this
  nd := by
    have := I.nd
    rw [List.map_append] at this ⊢
    exact this
  kd := I.kd
  inV := I.inV
  fin := I.fin
  F := I.F
  ch := fun pre post u t h => by
    rcases snoc_split h with ⟨post', h'⟩ | ⟨h1, h2⟩
    · exact I.ch pre (post' ++ [(s, i)]) u t (by rw [h', List.append_assoc]; rfl)
    · have := I.ch pre [] u (s, i) (by rw [h1, List.append_assoc]; rfl)
      rw [← h2]
      exact this
  pl := fun u hu => by
    rcases List.mem_append.mp hu with hu | hu
    · exact I.pl u (List.mem_append_left _ hu)
    · rw [List.mem_singleton.mp hu]
      have h0 := I.pl (s, i) (List.mem_append_right _ (List.mem_singleton.mpr rfl))
      refine ⟨(List.getElem?_eq_some_iff.mp hb).1, fun j c hj hc => ?_⟩
      rcases Nat.lt_or_ge j i with g | g
      · exact h0.2 j c g hc
      · have : j = i := by
          have hj : j < i + 1 := hj
          omega
        subst this
        have hc : (adj s)[j]? = some c := hc
        rw [hb] at hc
        cases hc
        exact hk
/-- the top's next one is new -/
theorem DfI.new {st : List (α × Nat)} {s : α} {i : Nat} {b : α} (I : DfI adj V order known (st ++ [(s, i)])) (hb : (adj s)[i]? = some b) (hk : b ∉ known) (hV : b ∈ V) : DfI adj V order (known ++ [b]) (st ++ [(s, i + 1)] ++ [(b, 0)]) where
  kn := fun x => by
    have := I.kn x
    rw [List.mem_append, this]
    simp only [List.map_append, List.map_cons, List.map_nil, List.mem_append, List.mem_singleton]
    constructor
    · rintro ((h | h | h) | h)
      · exact .inl h
      · exact .inr (.inl (.inl h))
      · exact .inr (.inl (.inr h))
      · exact .inr (.inr h)
    · rintro (h | (h | h) | h)
      · exact .inl (.inl h)
      · exact .inl (.inr (.inl h))
      · exact .inl (.inr (.inr h))
      · exact .inr h
  nd := by
    have h := I.nd
    rw [List.map_append] at h
    rw [List.map_append, List.map_append, ← List.append_assoc, List.nodup_append]
    refine ⟨h, by simp, fun x hx y hy => ?_⟩
    have hy : y = b := by simpa using hy
    rintro rfl
    refine hk (hy ▸ (I.kn x).mpr ?_)
    rw [List.map_append]
    exact List.mem_append.mp hx
  kd := by
    rw [List.nodup_append]
    exact ⟨I.kd, by simp, fun a ha b' hb' => by
      rw [List.mem_singleton] at hb'
      rintro rfl
      exact hk (hb' ▸ ha)⟩
  inV := fun x hx => (List.mem_append.mp hx).elim (I.inV x) fun h => by rw [List.mem_singleton.mp h]; exact hV
  fin := fun a ha c hc => List.mem_append_left _ (I.fin a ha c hc)
  F := I.F
  ch := fun pre post u t h => by
    rcases snoc_split h with ⟨post', h'⟩ | ⟨h1, h2⟩
    · rcases snoc_split h' with ⟨post2, h2⟩ | ⟨h3, h4⟩
      · exact I.ch pre (post2 ++ [(s, i)]) u t (by rw [h2, List.append_assoc]; rfl)
      · have := I.ch pre [] u (s, i) (by rw [h3, List.append_assoc]; rfl)
        rw [← h4]
        exact this
    · have e : u = (s, i + 1) := by
        have := List.append_inj_right' h1 rfl
        exact (List.cons.inj this).1.symm
      rw [e, ← h2]
      exact List.mem_of_getElem? hb
  pl := fun u hu => by
    have up : ∀ {u : α × Nat}, (u.2 ≤ (adj u.1).length ∧ ∀ j c, j < u.2 → (adj u.1)[j]? = some c → c ∈ known) → u.2 ≤ (adj u.1).length ∧ ∀ j c, j < u.2 → (adj u.1)[j]? = some c → c ∈ known ++ [b] := fun h => ⟨h.1, fun j c hj hc => List.mem_append_left _ (h.2 j c hj hc)⟩
    rcases List.mem_append.mp hu with hu | hu
    · rcases List.mem_append.mp hu with hu | hu
      · exact up (I.pl u (List.mem_append_left _ hu))
      · rw [List.mem_singleton.mp hu]
        have h0 := I.pl (s, i) (List.mem_append_right _ (List.mem_singleton.mpr rfl))
        refine ⟨(List.getElem?_eq_some_iff.mp hb).1, fun j c hj hc => ?_⟩
        rcases Nat.lt_or_ge j i with g | g
        · exact List.mem_append_left _ (h0.2 j c g hc)
        · have : j = i := by
            have hj : j < i + 1 := hj
            omega
          subst this
          have hc : (adj s)[j]? = some c := hc
          rw [hb] at hc
          cases hc
          exact List.mem_append_right _ (List.mem_singleton.mpr rfl)
    · rw [List.mem_singleton.mp hu]
      exact ⟨Nat.zero_le _, fun j c h => absurd h (Nat.not_lt_zero _)⟩
/-- what is open leads to the top -/
theorem DfI.chain {st : List (α × Nat)} {s : α} {i : Nat} (I : DfI adj V order known (st ++ [(s, i)])) : ∀ u ∈ st ++ [(s, i)], Ld adj u.1 s := by
  have key : ∀ (k : Nat) (pre post : List (α × Nat)), post.length = k → st ++ [(s, i)] = pre ++ post → ∀ u ∈ post, Ld adj u.1 s := by
    intro k
    induction k with
    | zero =>
      intro pre post hl _ u hu
      rw [List.eq_nil_of_length_eq_zero hl] at hu
      cases hu
    | succ k ih =>
      intro pre post hl e u hu
      cases post with
      | nil => cases hl
      | cons v post =>
        have e2 : st ++ [(s, i)] = (pre ++ [v]) ++ post := by rw [e, List.append_assoc]; rfl
        have rest := ih (pre ++ [v]) post (by simpa using hl) e2
        rcases List.mem_cons.mp hu with rfl | hu
        · cases post with
          | nil =>
            rw [List.append_nil] at e2
            have := List.append_inj_right' e2 rfl
            rw [← (List.cons.inj this).1]
            exact Ld.refl s
          | cons t post => exact (Ld.step (I.ch pre post u t e)).trans (rest t List.mem_cons_self)
        · exact rest u hu
  exact key _ [] _ rfl rfl
/-- the top is left -/
theorem DfI.leave {st : List (α × Nat)} {s : α} {i : Nat} (I : DfI adj V order known (st ++ [(s, i)])) (hi : (adj s).length ≤ i) : DfI adj V (order ++ [s]) known st := by
  have h0 := I.pl (s, i) (List.mem_append_right _ (List.mem_singleton.mpr rfl))
  have sk : ∀ b ∈ adj s, b ∈ known := fun b hb => by
    obtain ⟨j, hj⟩ := List.getElem?_of_mem hb
    exact h0.2 j b (Nat.lt_of_lt_of_le (List.getElem?_eq_some_iff.mp hj).1 hi) hj
  have fin' : ∀ a ∈ order ++ [s], ∀ b ∈ adj a, b ∈ known := fun a ha b hb => by
    rcases List.mem_append.mp ha with ha | ha
    · exact I.fin a ha b hb
    · rw [List.mem_singleton.mp ha] at hb
      exact sk b hb
  have kn' : ∀ x, x ∈ known ↔ x ∈ order ++ [s] ∨ x ∈ st.map (·.1) := fun x => by
    rw [I.kn x, List.map_append, List.map_cons, List.map_nil, List.mem_append, List.mem_append]
    constructor
    · rintro (h | h | h)
      · exact .inl (.inl h)
      · exact .inr h
      · exact .inl (.inr h)
    · rintro ((h | h) | h)
      · exact .inl h
      · exact .inr (.inr h)
      · exact .inr (.inl h)
  refine ⟨kn', ?_, I.kd, I.inV, fin', fun p x hx a ha b hb => ?_, fun pre post u t h => ?_, fun u hu => I.pl u (List.mem_append_left _ hu)⟩
  · have h := I.nd
    rw [List.map_append, List.map_cons, List.map_nil] at h
    refine (List.Perm.nodup_iff ?_).mp h
    rw [List.append_assoc]
    exact List.Perm.append_left _ List.perm_append_comm
  · by_cases hp : p < order.length
    · rw [List.getElem?_append_left hp] at hx
      rw [List.take_append_of_le_length hp] at ha ⊢
      exact I.F p x hx a ha b hb
    · have hl := (List.getElem?_eq_some_iff.mp hx).1
      rw [List.length_append, List.length_singleton] at hl
      have e : p = order.length := by omega
      subst e
      rw [List.getElem?_append_right (Nat.le_refl _), Nat.sub_self] at hx
      cases hx
      have et : (order ++ [s]).take (order.length + 1) = order ++ [s] := List.take_of_length_le (by rw [List.length_append]; exact Nat.le_refl _)
      rw [et] at ha ⊢
      rcases (kn' b).mp (fin' a ha b hb) with h | h
      · exact .inl h
      · obtain ⟨u, hu, rfl⟩ := List.mem_map.mp h
        exact .inr (I.chain u (List.mem_append_left _ hu))
  · exact I.ch pre (post ++ [(s, i)]) u t (by rw [h, List.append_assoc]; rfl)
/-- what is still to be done, where nothing leads on more than D times -/
def DfM (adj : α → List α) (V known : List α) (D : Nat) (stack : List (α × Nat)) : Nat := (V.length - known.length) * (D + 2) + (stack.map fun s => (adj s.1).length + 1 - s.2).sum
theorem sum_snoc (xs : List Nat) (x : Nat) : (xs ++ [x]).sum = xs.sum + x := by simp
theorem DfM.old {st : List (α × Nat)} {s : α} {i D : Nat} (h : i < (adj s).length) : DfM adj V known D (st ++ [(s, i + 1)]) < DfM adj V known D (st ++ [(s, i)]) := by
  unfold DfM
  rw [List.map_append, List.map_append, List.map_cons, List.map_nil, List.map_cons, List.map_nil, sum_snoc, sum_snoc]
  show _ + (_ + ((adj s).length + 1 - (i + 1))) < _ + (_ + ((adj s).length + 1 - i))
  omega
theorem DfM.leave {st : List (α × Nat)} {s : α} {i D : Nat} (h : i ≤ (adj s).length) : DfM adj V known D st < DfM adj V known D (st ++ [(s, i)]) := by
  unfold DfM
  rw [List.map_append, List.map_cons, List.map_nil, sum_snoc]
  show _ < _ + (_ + ((adj s).length + 1 - i))
  omega
theorem DfM.new {st : List (α × Nat)} {s b : α} {i D : Nat} (I : DfI adj V order known (st ++ [(s, i)])) (hk : b ∉ known) (hV : b ∈ V) (hD : (adj b).length ≤ D) (h : i < (adj s).length) : DfM adj V (known ++ [b]) D (st ++ [(s, i + 1)] ++ [(b, 0)]) < DfM adj V known D (st ++ [(s, i)]) := by
  unfold DfM
  have hl : (known ++ [b]).length ≤ V.length := nd_sub (by
    rw [List.nodup_append]
    exact ⟨I.kd, by simp, fun a ha b' hb' => by
      rw [List.mem_singleton] at hb'
      rintro rfl
      exact hk (hb' ▸ ha)⟩) fun x hx => (List.mem_append.mp hx).elim (I.inV x) fun h => by rw [List.mem_singleton.mp h]; exact hV
  rw [List.length_append, List.length_singleton] at hl ⊢
  rw [List.map_append, List.map_append, List.map_append, List.map_cons, List.map_nil, List.map_cons, List.map_nil, List.map_cons, List.map_nil, sum_snoc, sum_snoc, sum_snoc]
  show _ + (_ + ((adj s).length + 1 - (i + 1)) + ((adj b).length + 1 - 0)) < _ + (_ + ((adj s).length + 1 - i))
  have e : V.length - known.length = (V.length - (known.length + 1)) + 1 := by omega
  rw [e, Nat.add_mul, Nat.one_mul]
  omega
end

/-! ### lots of things that lead to one another -/
/-- all things of V numbered: the same number, and they lead to one another; no step leads to a lesser number -/
structure LotO (adj : α → List α) (V : List α) (nm : List (α × Nat)) : Prop where
  nd : (nm.map (·.1)).Nodup
  all : ∀ x, x ∈ V ↔ x ∈ nm.map (·.1)
  same : ∀ x y i, (x, i) ∈ nm → (y, i) ∈ nm → Ld adj x y
  up : ∀ x y i j, y ∈ adj x → (x, i) ∈ nm → (y, j) ∈ nm → i ≤ j
/-- between two first ones: n numbers are taken -/
structure LotI (adj : α → List α) (V done : List α) (n : Nat) (nm : List (α × Nat)) : Prop where
  nd : (nm.map (·.1)).Nodup
  inV : ∀ x ∈ nm.map (·.1), x ∈ V
  dn : ∀ x ∈ done, x ∈ nm.map (·.1)
  lt : ∀ p ∈ nm, p.2 < n
  pre : ∀ x ∈ V, ∀ y ∈ adj x, y ∈ nm.map (·.1) → x ∈ nm.map (·.1)
  same : ∀ x y i, (x, i) ∈ nm → (y, i) ∈ nm → Ld adj x y
  up : ∀ x y i j, y ∈ adj x → (x, i) ∈ nm → (y, j) ∈ nm → i ≤ j
/-- while a lot is gathered from r on: mm those of the lot, q those whose sources are still to be seen, S the sources seen of the one at hand -/
structure LotG (adj : α → List α) (V : List α) (r : α) (nm : List (α × Nat)) (mm q : List α) (c : Option α) (S : List α) : Prop where
  nd : (nm.map (·.1) ++ mm).Nodup
  inV : ∀ x ∈ mm, x ∈ V
  rm : r ∈ mm
  to : ∀ x ∈ mm, Ld adj x r
  qm : ∀ x ∈ q, x ∈ mm
  cm : ∀ x, c = some x → x ∈ mm
  pre : ∀ y ∈ mm, y ∉ q → c ≠ some y → ∀ x ∈ V, y ∈ adj x → x ∈ nm.map (·.1) ++ mm
  cS : ∀ y x, c = some y → x ∈ S → x ∈ nm.map (·.1) ++ mm
section
variable {V done mm q : List α} {nm : List (α × Nat)} {n : Nat} {r y : α} {S : List α}
theorem LotI.first (I : LotI adj V done n nm) (hr : r ∉ nm.map (·.1)) (hV : r ∈ V) : LotG adj V r nm [r] [r] none [] where
  nd := by
    rw [List.nodup_append]
    exact ⟨I.nd, by simp, fun a ha b hb => by
      rw [List.mem_singleton] at hb
      rintro rfl
      exact hr (hb ▸ ha)⟩
  inV := fun x hx => by rw [List.mem_singleton.mp hx]; exact hV
  rm := List.mem_singleton.mpr rfl
  to := fun x hx => by rw [List.mem_singleton.mp hx]; exact Ld.refl r
  qm := fun x hx => hx
  cm := fun x h => nomatch h
  pre := fun y hy hq => absurd hy hq
  cS := fun y x h => nomatch h
/-- the last of the queue is taken up -/
theorem LotG.take (G : LotG adj V r nm mm (q ++ [y]) none []) : LotG adj V r nm mm q (some y) [] where
  nd := G.nd
  inV := G.inV
  rm := G.rm
  to := G.to
  qm := fun x hx => G.qm x (List.mem_append_left _ hx)
  cm := fun x h => by
    cases h
    exact G.qm y (List.mem_append_right _ (List.mem_singleton.mpr rfl))
  pre := fun z hz hq hc => G.pre z hz (fun h => by
    rcases List.mem_append.mp h with h | h
    · exact hq h
    · exact hc (by rw [List.mem_singleton.mp h])) (fun h => nomatch h)
  cS := fun z x _ h => nomatch h
/-- a source that has a number -/
theorem LotG.old {x : α} (G : LotG adj V r nm mm q (some y) S) (hx : x ∈ nm.map (·.1) ++ mm) : LotG adj V r nm mm q (some y) (S ++ [x]) := { G with
  cS := fun z u h hu => by
    rcases List.mem_append.mp hu with hu | hu
    · exact G.cS z u h hu
    · rw [List.mem_singleton.mp hu]
      exact hx }
/-- a source without one -/
theorem LotG.new {x : α} (G : LotG adj V r nm mm q (some y) S) (hx : x ∉ nm.map (·.1) ++ mm) (hV : x ∈ V) (hy : y ∈ adj x) : LotG adj V r nm (mm ++ [x]) (q ++ [x]) (some y) (S ++ [x]) where
  nd := by
    rw [← List.append_assoc, List.nodup_append]
    exact ⟨G.nd, by simp, fun a ha b hb => by
      rw [List.mem_singleton] at hb
      rintro rfl
      exact hx (hb ▸ ha)⟩
  inV := fun z hz => (List.mem_append.mp hz).elim (G.inV z) fun h => by rw [List.mem_singleton.mp h]; exact hV
  rm := List.mem_append_left _ G.rm
  to := fun z hz => (List.mem_append.mp hz).elim (G.to z) fun h => by
    rw [List.mem_singleton.mp h]
    exact (Ld.step hy).trans (G.to y (G.cm y rfl))
  qm := fun z hz => (List.mem_append.mp hz).elim (fun h => List.mem_append_left _ (G.qm z h)) fun h => List.mem_append_right _ h
  cm := fun z h => List.mem_append_left _ (G.cm z h)
  pre := fun z hz hq hc u hu he => by
    rcases List.mem_append.mp hz with hz | hz
    · have := G.pre z hz (fun h => hq (List.mem_append_left _ h)) hc u hu he
      rw [← List.append_assoc]
      exact List.mem_append_left _ this
    · exact absurd (List.mem_append_right _ hz) hq
  cS := fun z u h hu => by
    rw [← List.append_assoc]
    rcases List.mem_append.mp hu with hu | hu
    · exact List.mem_append_left _ (G.cS z u h hu)
    · exact List.mem_append_right _ hu
/-- one that has a number already -/
theorem LotI.skip (I : LotI adj V done n nm) (hr : r ∈ nm.map (·.1)) : LotI adj V (done ++ [r]) n nm := { I with
  dn := fun x hx => (List.mem_append.mp hx).elim (I.dn x) fun h => by rw [List.mem_singleton.mp h]; exact hr }
/-- two that lead to one another have the same number -/
theorem LotO.eq (O : LotO adj V nm) (cl : ∀ x ∈ V, ∀ y ∈ adj x, y ∈ V) {x y : α} {i j : Nat} (hx : (x, i) ∈ nm) (hy : (y, j) ∈ nm) (h1 : Ld adj x y) (h2 : Ld adj y x) : i = j := by
  have mono : ∀ (k : Nat) (x y : α), LdN adj k x y → ∀ i j, (x, i) ∈ nm → (y, j) ∈ nm → i ≤ j := fun k x y h => by
    induction h with
    | nil x =>
      intro i j hi hj
      have : i = j := by
        have h1 := O.nd
        obtain ⟨a, ha⟩ := List.getElem?_of_mem hi
        obtain ⟨b, hb⟩ := List.getElem?_of_mem hj
        have e1 : (nm.map (·.1))[a]? = some x := by rw [List.getElem?_map, ha]; rfl
        have e2 : (nm.map (·.1))[b]? = some x := by rw [List.getElem?_map, hb]; rfl
        have := (List.getElem?_inj (List.getElem?_eq_some_iff.mp e1).1 h1).mp (e1.trans e2.symm)
        subst this
        rw [ha] at hb
        exact (Prod.mk.inj (Option.some.inj hb)).2
      omega
    | @cons n x y z h t ih =>
      intro i j hi hj
      have yV : y ∈ V := cl x ((O.all x).mpr (List.mem_map.mpr ⟨_, hi, rfl⟩)) y h
      obtain ⟨p, hp, e⟩ := List.mem_map.mp ((O.all y).mp yV)
      have hp' : (y, p.2) ∈ nm := by rw [← e]; exact hp
      have := O.up x y i p.2 h hi hp'
      have := ih p.2 j hp' hj
      omega
  obtain ⟨a, h1⟩ := h1
  obtain ⟨b, h2⟩ := h2
  have := mono a x y h1 i j hx hy
  have := mono b y x h2 j i hy hx
  omega
end
end
end DL

/-! FT: standings (a post, open atoms), moves between them, as they are gathered (own work). -/
namespace DL
open PySem L2 PySem.W PyProof.Rows

abbrev L3 := Str × Str × Str
abbrev Sd := Str × List Nat
/-- the moves of a standing -/
def sdSc (es : List L3) (m : Mc) (s : Sd) : List (Str × Sd) := (es.filter fun r => decide (r.2.1 = s.1) && !doneM m (begM m s.2 r.1)).map fun r => (r.1, (r.2.2, begM m s.2 r.1))
abbrev sdA (es : List L3) (m : Mc) (s : Sd) : List Sd := (sdSc es m s).map (·.2)
abbrev Mv := List (Sd × List (Str × Sd))
/-! ### gathering moves -/
structure MIn (es : List L3) (m : Mc) (ps : List Str) (n : Nat) (E : List (Str × Sd)) (qs : List Sd) (cs : List (List (Str × Sd))) : Prop where
  nd : qs.Nodup
  ini : ∀ p ∈ ps, (p, []) ∈ qs
  ln : cs.length = qs.length
  dn : ∀ (i : Nat) c, i < n → qs[i]? = some c → cs[i]? = some (sdSc es m c)
  at_ : ∀ c, qs[n]? = some c → cs[n]? = some E
  af : ∀ i, n < i → i < qs.length → cs[i]? = some []
  cl : ∀ l ∈ cs, ∀ e ∈ l, e.2 ∈ qs
  rc : ∀ s ∈ qs, ∃ p ∈ ps, Ld (sdA es m) (p, []) s
structure MvOk (es : List L3) (m : Mc) (ps : List Str) (mv : Mv) : Prop where
  nd : (mv.map (·.1)).Nodup
  ini : ∀ p ∈ ps, (p, []) ∈ mv.map (·.1)
  sc : ∀ x ∈ mv, x.2 = sdSc es m x.1
  cl : ∀ s ∈ mv.map (·.1), ∀ t ∈ sdA es m s, t ∈ mv.map (·.1)
  rc : ∀ s ∈ mv.map (·.1), ∃ p ∈ ps, Ld (sdA es m) (p, []) s
section
variable {es : List L3} {m : Mc} {ps : List Str} {n : Nat} {E : List (Str × Sd)} {qs : List Sd} {cs : List (List (Str × Sd))}
theorem MIn.old (I : MIn es m ps n E qs cs) {c : Sd} (hc : qs[n]? = some c) {e : Str × Sd} (h : e.2 ∈ qs) : MIn es m ps n (E ++ [e]) qs (cs.set n (E ++ [e])) where
  nd := I.nd
  ini := I.ini
  ln := by rw [List.length_set]; exact I.ln
  dn := fun i d hi hd => by
    rw [List.getElem?_set_ne (by omega)]
    exact I.dn i d hi hd
  at_ := fun d hd => by
    rw [List.getElem?_set_self (by rw [I.ln]; exact (List.getElem?_eq_some_iff.mp hc).1)]
  af := fun i hi hl => by
    rw [List.getElem?_set_ne (by omega)]
    exact I.af i hi hl
  cl := fun l hl f hf => by
    rcases List.mem_or_eq_of_mem_set hl with hl | rfl
    · exact I.cl l hl f hf
    · rcases List.mem_append.mp hf with hf | hf
      · exact I.cl E (List.mem_of_getElem? (I.at_ c hc)) f hf
      · rw [List.mem_singleton.mp hf]
        exact h
  rc := I.rc
theorem MIn.new (I : MIn es m ps n E qs cs) {c : Sd} (hc : qs[n]? = some c) {e : Str × Sd} (he : e.2 ∈ sdA es m c) (h : e.2 ∉ qs) : MIn es m ps n (E ++ [e]) (qs ++ [e.2]) (cs.set n (E ++ [e]) ++ [[]]) where
  nd := by
    rw [List.nodup_append]
    exact ⟨I.nd, by simp, fun a ha b hb => by
      rw [List.mem_singleton] at hb
      rintro rfl
      exact h (hb ▸ ha)⟩
  ini := fun p hp => List.mem_append_left _ (I.ini p hp)
  ln := by rw [List.length_append, List.length_set, List.length_append, I.ln]; rfl
  dn := fun i d hi hd => by
    have hl := (List.getElem?_eq_some_iff.mp hc).1
    rw [List.getElem?_append_left (by omega)] at hd
    rw [List.getElem?_append_left (by rw [List.length_set, I.ln]; omega), List.getElem?_set_ne (by omega)]
    exact I.dn i d hi hd
  at_ := fun d _ => by
    have hl := (List.getElem?_eq_some_iff.mp hc).1
    rw [List.getElem?_append_left (by rw [List.length_set, I.ln]; omega), List.getElem?_set_self (by rw [I.ln]; exact hl)]
  af := fun i hi hl => by
    rw [List.length_append, List.length_singleton] at hl
    by_cases g : i < qs.length
    · rw [List.getElem?_append_left (by rw [List.length_set, I.ln]; omega), List.getElem?_set_ne (by omega)]
      exact I.af i hi g
    · have : i = qs.length := by omega
      subst this
      rw [List.getElem?_append_right (by rw [List.length_set, I.ln]; exact Nat.le_refl _), List.length_set, I.ln, Nat.sub_self]
      rfl
  cl := fun l hl f hf => by
    rcases List.mem_append.mp hl with hl | hl
    · rcases List.mem_or_eq_of_mem_set hl with hl | rfl
      · exact List.mem_append_left _ (I.cl l hl f hf)
      · rcases List.mem_append.mp hf with hf | hf
        · exact List.mem_append_left _ (I.cl E (List.mem_of_getElem? (I.at_ c hc)) f hf)
        · rw [List.mem_singleton.mp hf]
          exact List.mem_append_right _ (List.mem_singleton.mpr rfl)
    · rw [List.mem_singleton.mp hl] at hf
      cases hf
  rc := fun s hs => by
    rcases List.mem_append.mp hs with hs | hs
    · exact I.rc s hs
    · rw [List.mem_singleton.mp hs]
      obtain ⟨p, hp, h⟩ := I.rc c (List.mem_of_getElem? hc)
      exact ⟨p, hp, h.tail he⟩
theorem MIn.next (I : MIn es m ps n E qs cs) (hE : ∀ c, qs[n]? = some c → E = sdSc es m c) : MIn es m ps (n + 1) [] qs cs where
  nd := I.nd
  ini := I.ini
  ln := I.ln
  dn := fun i d hi hd => by
    rcases Nat.lt_or_ge i n with g | g
    · exact I.dn i d g hd
    · have : i = n := by omega
      subst this
      rw [I.at_ d hd, hE d hd]
  at_ := fun d hd => I.af (n + 1) (Nat.lt_succ_self _) (List.getElem?_eq_some_iff.mp hd).1
  af := fun i hi hl => I.af i (by omega) hl
  cl := I.cl
  rc := I.rc
/-- standings met out of a row: no more than it has -/
theorem MIn.few (I : MIn es m ps n E qs cs) {N : List Sd} (h0 : ∀ p ∈ ps, (p, []) ∈ N) (hN : ∀ x ∈ N, ∀ y ∈ sdA es m x, y ∈ N) : qs.length ≤ N.length := nd_sub I.nd fun x hx => by
  obtain ⟨p, hp, k, hk⟩ := I.rc x hx
  exact hk.in_ hN (h0 p hp)
end
end DL

/-! FU: rows by standings and their lists, as data and as cells; what leads to each standing (own work). -/
namespace DL
open PySem L2 PySem.W PyProof.Rows

/-- where a standing leads -/
def mvA (mv : Mv) (s : Sd) : List Sd := match mv.find? fun x => decide (x.1 = s) with
  | some x => x.2.map (·.2)
  | none => []
theorem mvA_at {mv : Mv} (hn : (mv.map (·.1)).Nodup) {x : Sd × List (Str × Sd)} (h : x ∈ mv) : mvA mv x.1 = x.2.map (·.2) := by
  unfold mvA
  have : mv.find? (fun y => decide (y.1 = x.1)) = some x := by
    induction mv with
    | nil => cases h
    | cons y mv ih =>
      have hn2 := List.nodup_cons.mp (by rw [List.map_cons] at hn; exact hn)
      rw [List.find?_cons]
      rcases List.mem_cons.mp h with rfl | h
      · rw [decide_eq_true rfl]
      · have : ¬ y.1 = x.1 := fun e => hn2.1 (e ▸ List.mem_map.mpr ⟨x, h, rfl⟩)
        rw [decide_eq_false this]
        exact ih hn2.2 h
  rw [this]
theorem mvA_mem {mv : Mv} {s t : Sd} (h : t ∈ mvA mv s) : ∃ x ∈ mv, x.1 = s ∧ t ∈ x.2.map (·.2) := by
  unfold mvA at h
  cases e : mv.find? (fun x => decide (x.1 = s)) with
  | none => rw [e] at h; cases h
  | some x =>
    rw [e] at h
    exact ⟨x, List.mem_of_find?_eq_some e, by simpa using List.find?_some e, h⟩
/-- all moves without their lanes -/
def edR (mv : Mv) : List (Sd × Sd) := mv.flatMap fun x => x.2.map fun e => (x.1, e.2)
/-- moves that a walk may go through: told once each, none leads out, not too many -/
structure MvW (mv : Mv) : Prop where
  nd : (mv.map (·.1)).Nodup
  cl : ∀ x ∈ mv, ∀ e ∈ x.2, e.2 ∈ mv.map (·.1)
  few : (edR mv).length ≤ 90000
  mn : mv.length ≤ 40000
  rw : ∀ x ∈ mv, x.2.length ≤ 1000
theorem MvW.to {mv : Mv} (W : MvW mv) {s t : Sd} (h : t ∈ mvA mv s) : t ∈ mv.map (·.1) := by
  obtain ⟨x, hx, _, q⟩ := mvA_mem h
  obtain ⟨e, he, rfl⟩ := List.mem_map.mp q
  exact W.cl x hx e he
theorem DfI.few {adj : Sd → List Sd} {V order known : List Sd} {stack : List (Sd × Nat)} (I : DfI adj V order known stack) : order.length + stack.length ≤ V.length ∧ known.length ≤ V.length := by
  have h1 := nd_sub I.nd (ys := V) fun x hx => I.inV x ((I.kn x).mpr (List.mem_append.mp hx))
  rw [List.length_append, List.length_map] at h1
  exact ⟨h1, nd_sub I.kd fun x hx => I.inV x hx⟩
section
variable {wd : World} {K : PySem.W.Frag} {ro : Ro} {ka : Cells} {te : TE} {P R : W → Cells → Prop}
end
end DL

/-! FV: lanes on moves between standings of one number, dicts of dicts (own work). -/
namespace DL
open PySem L2 PySem.W PyProof.Rows

def edL (mv : Mv) : List (Sd × Str × Sd) := mv.flatMap fun x => x.2.map fun e => (x.1, e.1, e.2)
theorem edL_mem {mv : Mv} {s t : Sd} {l : Str} : (s, l, t) ∈ edL mv ↔ ∃ x ∈ mv, x.1 = s ∧ (l, t) ∈ x.2 := by
  unfold edL
  rw [List.mem_flatMap]
  constructor
  · rintro ⟨x, hx, h⟩
    obtain ⟨e, he, q⟩ := List.mem_map.mp h
    cases q
    exact ⟨x, hx, rfl, he⟩
  · rintro ⟨x, hx, rfl, h⟩
    exact ⟨x, hx, List.mem_map.mpr ⟨_, h, rfl⟩⟩
/-- the lanes on moves within a number -/
def ilL (nm : List (Sd × Nat)) (E : List (Sd × Str × Sd)) (n : Nat) : List Str := (E.filter fun e => decide ((e.1, n) ∈ nm) && decide ((e.2.2, n) ∈ nm)).map (·.2.1)
theorem ilL_in {nm : List (Sd × Nat)} {E : List (Sd × Str × Sd)} {n : Nat} {e : Sd × Str × Sd} (h1 : (e.1, n) ∈ nm) (h2 : (e.2.2, n) ∈ nm) : ilL nm (E ++ [e]) n = ilL nm E n ++ [e.2.1] := by
  unfold ilL
  rw [List.filter_append, List.map_append, List.filter_cons, decide_eq_true h1, decide_eq_true h2]
  rfl
theorem ilL_out {nm : List (Sd × Nat)} {E : List (Sd × Str × Sd)} {n : Nat} {e : Sd × Str × Sd} (h : ¬ ((e.1, n) ∈ nm ∧ (e.2.2, n) ∈ nm)) : ilL nm (E ++ [e]) n = ilL nm E n := by
  unfold ilL
  rw [List.filter_append, List.map_append, List.filter_cons]
  have : (decide ((e.1, n) ∈ nm) && decide ((e.2.2, n) ∈ nm)) = false := by
    rw [← Bool.not_eq_true, Bool.and_eq_true, decide_eq_true_eq, decide_eq_true_eq]
    exact h
  rw [this]
  exact List.append_nil _
theorem ilL_mem {nm : List (Sd × Nat)} {E : List (Sd × Str × Sd)} {n : Nat} {l : Str} : l ∈ ilL nm E n ↔ ∃ s t, (s, l, t) ∈ E ∧ (s, n) ∈ nm ∧ (t, n) ∈ nm := by
  unfold ilL
  rw [List.mem_map]
  constructor
  · rintro ⟨⟨s, l', t⟩, h, rfl⟩
    obtain ⟨h1, h2⟩ := List.mem_filter.mp h
    rw [Bool.and_eq_true, decide_eq_true_eq, decide_eq_true_eq] at h2
    exact ⟨s, t, h1, h2⟩
  · rintro ⟨s, t, h, h1, h2⟩
    exact ⟨(s, l, t), List.mem_filter.mpr ⟨h, by rw [decide_eq_true h1, decide_eq_true h2]; rfl⟩, rfl⟩
/-- two numbers of one standing are the same -/
theorem num_one {nm : List (Sd × Nat)} (hn : (nm.map (·.1)).Nodup) {s : Sd} {i j : Nat} (h1 : (s, i) ∈ nm) (h2 : (s, j) ∈ nm) : i = j := by
  induction nm with
  | nil => cases h1
  | cons x nm ih =>
    have hn2 := List.nodup_cons.mp (by rw [List.map_cons] at hn; exact hn)
    rcases List.mem_cons.mp h1 with e1 | h1 <;> rcases List.mem_cons.mp h2 with e2 | h2
    · rw [← e1] at e2
      exact (Prod.mk.inj e2).2.symm
    · exact absurd (List.mem_map.mpr ⟨_, h2, by rw [← e1]⟩) hn2.1
    · exact absurd (List.mem_map.mpr ⟨_, h1, by rw [← e2]⟩) hn2.1
    · exact ih hn2.2 h1 h2
/-! ### dicts behind numbers -/
/-- each number: its dict's place among those made -/
def ilR (as : List Addr) (rows : List (Nat × Nat)) : List (Key × D) := rows.map fun r => (Sum.inl (r.1 : Int), D.adr (as[r.2]?.getD 0))
structure IlR (nm : List (Sd × Nat)) (len : Nat) (rows : List (Nat × Nat)) : Prop where
  n1 : (rows.map (·.1)).Nodup
  n2 : (rows.map (·.2)).Nodup
  lt : ∀ r ∈ rows, r.2 < len
  mem : ∀ n, n ∈ rows.map (·.1) ↔ n ∈ nm.map (·.2)
theorem int_inl {i j : Nat} (h : (Sum.inl (i : Int) : Key) = Sum.inl (j : Int)) : i = j := by
  injection h with h
  omega
theorem ilR_has {as : List Addr} {rows : List (Nat × Nat)} {n : Nat} : hasT (ilR as rows) (Sum.inl (n : Int)) = decide (n ∈ rows.map (·.1)) := by
  rw [Bool.eq_iff_iff, decide_eq_true_eq]
  unfold hasT ilR
  rw [List.any_map, List.any_eq_true]
  constructor
  · rintro ⟨r, hr, h⟩
    exact List.mem_map.mpr ⟨r, hr, int_inl (of_decide_eq_true h)⟩
  · intro h
    obtain ⟨r, hr, rfl⟩ := List.mem_map.mp h
    exact ⟨r, hr, decide_eq_true rfl⟩
theorem ilR_more {as : List Addr} {rows : List (Nat × Nat)} {a : Addr} (h : ∀ r ∈ rows, r.2 < as.length) : ilR (as ++ [a]) rows = ilR as rows := by
  unfold ilR
  refine List.map_congr_left fun r hr => ?_
  rw [List.getElem?_append_left (h r hr)]
theorem IlR.put {nm : List (Sd × Nat)} {i : Nat} {rows : List (Nat × Nat)} (I : IlR (nm.take i) i rows) {x : Sd × Nat} (h : nm[i]? = some x) {as : List Addr} (hl : as.length = i) (a : Addr) : ∃ rows', putT (ilR as rows) (Sum.inl (x.2 : Int)) (.adr a) = ilR (as ++ [a]) rows' ∧ IlR (nm.take (i + 1)) (i + 1) rows' := by
  have hlt : ∀ r ∈ rows, r.2 < as.length := fun r hr => by rw [hl]; exact I.lt r hr
  have hmem : ∀ n, n ∈ (nm.take (i + 1)).map (·.2) ↔ n ∈ (nm.take i).map (·.2) ∨ n = x.2 := fun n => by
    rw [take_succ_some h, List.map_append, List.mem_append]
    simp
  by_cases hx : x.2 ∈ rows.map (·.1)
  · refine ⟨rows.map fun r => if r.1 = x.2 then (r.1, i) else r, ?_, ?_, ?_, ?_, fun n => ?_⟩
    · unfold putT
      rw [ilR_has, if_pos (decide_eq_true hx)]
      unfold ilR
      rw [List.map_map, List.map_map]
      refine List.map_congr_left fun r hr => ?_
      simp only [Function.comp, newAt]
      by_cases e : r.1 = x.2
      · rw [if_pos (by rw [e]), if_pos e]
        simp only
        rw [List.getElem?_append_right (by omega), hl, Nat.sub_self]
        rfl
      · rw [if_neg (fun z => e (int_inl z)), if_neg e, List.getElem?_append_left (hlt r hr)]
    · rw [List.map_map, show ((fun x => x.1) ∘ fun r : Nat × Nat => if r.1 = x.2 then (r.1, i) else r) = fun r => r.1 from funext fun r => by simp only [Function.comp]; split <;> rfl]
      exact I.n1
    · have n1 := I.n1
      have n2 := I.n2
      have lt := I.lt
      clear hmem hlt hx I
      induction rows with
      | nil => exact List.nodup_nil
      | cons r rows ih =>
        rw [List.map_cons] at n1 n2
        have q1 := List.nodup_cons.mp n1
        have q2 := List.nodup_cons.mp n2
        rw [List.map_cons, List.map_cons, List.nodup_cons]
        refine ⟨fun hm => ?_, ih q1.2 q2.2 fun r hr => lt r (List.mem_cons_of_mem _ hr)⟩
        rw [List.map_map] at hm
        obtain ⟨r', h1, h2⟩ := List.mem_map.mp hm
        have l1 := lt r List.mem_cons_self
        have l2 := lt r' (List.mem_cons_of_mem _ h1)
        simp only [Function.comp] at h2
        by_cases e : r.1 = x.2 <;> by_cases e' : r'.1 = x.2
        · exact q1.1 (e.trans e'.symm ▸ List.mem_map.mpr ⟨r', h1, rfl⟩)
        · rw [if_pos e, if_neg e'] at h2
          simp only at h2
          omega
        · rw [if_neg e, if_pos e'] at h2
          simp only at h2
          omega
        · rw [if_neg e, if_neg e'] at h2
          exact q2.1 (h2 ▸ List.mem_map.mpr ⟨r', h1, rfl⟩)
    · intro r hr
      obtain ⟨r', h1, rfl⟩ := List.mem_map.mp hr
      have := I.lt r' h1
      split
      · exact Nat.lt_succ_self _
      · omega
    · rw [hmem, ← I.mem, List.map_map, show ((fun x => x.1) ∘ fun r : Nat × Nat => if r.1 = x.2 then (r.1, i) else r) = fun r => r.1 from funext fun r => by simp only [Function.comp]; split <;> rfl]
      exact ⟨.inl, fun h => h.elim id fun e => e ▸ hx⟩
  · refine ⟨rows ++ [(x.2, i)], ?_, ?_, ?_, ?_, fun n => ?_⟩
    · unfold putT
      rw [ilR_has, if_neg (by simpa using hx)]
      conv => lhs; rw [← ilR_more (a := a) hlt]
      unfold ilR
      rw [List.map_append, List.map_cons, List.map_nil]
      simp only
      rw [List.getElem?_append_right (by omega), hl, Nat.sub_self]
      rfl
    · rw [List.map_append, List.nodup_append]
      refine ⟨I.n1, by simp, fun u hu v hv => ?_⟩
      rw [List.map_cons, List.map_nil, List.mem_singleton] at hv
      have hv : v = x.2 := hv
      rintro rfl
      exact hx (hv ▸ hu)
    · rw [List.map_append, List.nodup_append]
      refine ⟨I.n2, by simp, fun u hu v hv => ?_⟩
      rw [List.map_cons, List.map_nil, List.mem_singleton] at hv
      obtain ⟨r, hr, rfl⟩ := List.mem_map.mp hu
      have := I.lt r hr
      omega
    · intro r hr
      rcases List.mem_append.mp hr with hr | hr
      · have := I.lt r hr
        omega
      · rw [List.mem_singleton.mp hr]
        exact Nat.lt_succ_self _
    · rw [hmem, ← I.mem, List.map_append, List.mem_append]
      simp
/-- what each number's dict holds behind some moves -/
structure IlS (nm : List (Sd × Nat)) (rows : List (Nat × Nat)) (len : Nat) (E : List (Sd × Str × Sd)) (ls : List (List Str)) : Prop where
  ln : ls.length = len
  at_ : ∀ r ∈ rows, ls[r.2]? = some (dedS (ilL nm E r.1))
theorem IlS.skip {nm : List (Sd × Nat)} {rows : List (Nat × Nat)} {len : Nat} {E : List (Sd × Str × Sd)} {ls : List (List Str)} (I : IlS nm rows len E ls) {e : Sd × Str × Sd} (h : ∀ n, ¬ ((e.1, n) ∈ nm ∧ (e.2.2, n) ∈ nm)) : IlS nm rows len (E ++ [e]) ls where
  ln := I.ln
  at_ := fun r hr => by rw [ilL_out (h r.1)]; exact I.at_ r hr
theorem IlS.more {nm : List (Sd × Nat)} {rows : List (Nat × Nat)} {len : Nat} {E : List (Sd × Str × Sd)} {ls : List (List Str)} (I : IlS nm rows len E ls) (hn : (nm.map (·.1)).Nodup) (n1 : (rows.map (·.1)).Nodup) (n2 : (rows.map (·.2)).Nodup) {e : Sd × Str × Sd} {r : Nat × Nat} (hr : r ∈ rows) (h1 : (e.1, r.1) ∈ nm) (h2 : (e.2.2, r.1) ∈ nm) : IlS nm rows len (E ++ [e]) (ls.set r.2 (dedS (ilL nm E r.1 ++ [e.2.1]))) where
  ln := by rw [List.length_set]; exact I.ln
  at_ := fun r' hr' => by
    have hl := (List.getElem?_eq_some_iff.mp (I.at_ r hr)).1
    by_cases e' : r'.1 = r.1
    · have : r' = r := nd_inj n1 hr' hr e'
      subst this
      rw [List.getElem?_set_self hl, ilL_in h1 h2]
    · have hne : r.2 ≠ r'.2 := fun z => e' (by rw [nd_inj n2 hr' hr z.symm])
      rw [List.getElem?_set_ne hne, ilL_out fun ⟨q1, _⟩ => e' (num_one hn q1 h1)]
      exact I.at_ r' hr'
where
  nd_inj {f : Nat × Nat → Nat} {rows : List (Nat × Nat)} (n : (rows.map f).Nodup) {a b : Nat × Nat} (ha : a ∈ rows) (hb : b ∈ rows) (h : f a = f b) : a = b := by
    induction rows with
    | nil => cases ha
    | cons x rows ih =>
      have q := List.nodup_cons.mp (by rw [List.map_cons] at n; exact n)
      rcases List.mem_cons.mp ha with e1 | h1 <;> rcases List.mem_cons.mp hb with e2 | h2
      · rw [e1, e2]
      · exact absurd (List.mem_map.mpr ⟨b, h2, by rw [← h, e1]⟩) q.1
      · exact absurd (List.mem_map.mpr ⟨a, h1, by rw [h, e2]⟩) q.1
      · exact ih q.2 h1 h2
end DL
namespace DL
open PySem L2 PySem.W PyProof.Rows
/-! ### a round along moves that takes all wanted lanes -/
def AvN (nm : List (Sd × Nat)) (E : List (Sd × Str × Sd)) (gs : List Str) (d : D) : Prop :=
  (d = .non ∧ ∀ n ∈ nm.map (·.2), ¬ ∀ g ∈ gs, g ∈ ilL nm E n) ∨ ∃ n : Nat, d = .int (n : Int) ∧ n ∈ nm.map (·.2) ∧ ∀ g ∈ gs, g ∈ ilL nm E n
/-- a standing from which each wanted lane can be taken, and back -/
def AvP (mv : Mv) (gs : List Str) : Prop := ∃ s ∈ mv.map (·.1), ∀ g ∈ gs, ∃ u v, (u, g, v) ∈ edL mv ∧ Ld (mvA mv) s u ∧ Ld (mvA mv) v s
open Classical in
noncomputable def avB (mv : Mv) (gs : List Str) : Bool := decide (AvP mv gs)
open Classical in
theorem avB_iff {mv : Mv} {gs : List Str} : avB mv gs = true ↔ AvP mv gs := decide_eq_true_iff
theorem MvW.lane {mv : Mv} (V : MvW mv) {u v : Sd} {g : Str} (h : (u, g, v) ∈ edL mv) : v ∈ mvA mv u ∧ u ∈ mv.map (·.1) := by
  obtain ⟨x, hx, rfl, he⟩ := edL_mem.mp h
  exact ⟨by rw [mvA_at V.nd hx]; exact List.mem_map.mpr ⟨_, he, rfl⟩, List.mem_map.mpr ⟨x, hx, rfl⟩⟩
theorem LotO.few {mv : Mv} {nm : List (Sd × Nat)} (O : LotO (mvA mv) (mv.map (·.1)) nm) : nm.length ≤ mv.length := by
  have := nd_sub O.nd (ys := mv.map (·.1)) fun x hx => (O.all x).mpr hx
  rw [List.length_map, List.length_map] at this
  exact this
theorem AvN.told {mv : Mv} {nm : List (Sd × Nat)} {gs : List Str} {d : D} (V : MvW mv) (O : LotO (mvA mv) (mv.map (·.1)) nm) (h : AvN nm (edL mv) gs d) : isNonD d = !avB mv gs := by
  have key : AvP mv gs ↔ ∃ n ∈ nm.map (·.2), ∀ g ∈ gs, g ∈ ilL nm (edL mv) n := by
    constructor
    · rintro ⟨s, hs, hg⟩
      obtain ⟨⟨s', n⟩, hsn, e⟩ := List.mem_map.mp ((O.all s).mp hs)
      simp only at e
      subst e
      refine ⟨n, List.mem_map.mpr ⟨_, hsn, rfl⟩, fun g hgm => ?_⟩
      obtain ⟨u, v, he, h1, h2⟩ := hg g hgm
      obtain ⟨hv, hu⟩ := V.lane he
      obtain ⟨⟨u', i⟩, hui, e⟩ := List.mem_map.mp ((O.all u).mp hu)
      simp only at e
      subst e
      obtain ⟨⟨v', j⟩, hvj, e⟩ := List.mem_map.mp ((O.all v).mp (V.to hv))
      simp only at e
      subst e
      have cl : ∀ x ∈ mv.map (·.1), ∀ y ∈ mvA mv x, y ∈ mv.map (·.1) := fun x _ y hy => V.to hy
      have e1 := O.eq cl hsn hui h1 ((Ld.step hv).trans h2)
      have e2 := O.eq cl hsn hvj (h1.tail hv) h2
      subst e1 e2
      exact ilL_mem.mpr ⟨_, _, he, hui, hvj⟩
    · rintro ⟨n, hn, hg⟩
      obtain ⟨⟨s, n'⟩, hsn, e⟩ := List.mem_map.mp hn
      simp only at e
      subst e
      refine ⟨s, (O.all s).mpr (List.mem_map.mpr ⟨_, hsn, rfl⟩), fun g hgm => ?_⟩
      obtain ⟨u, v, he, h1, h2⟩ := ilL_mem.mp (hg g hgm)
      exact ⟨u, v, he, O.same _ _ _ hsn h1, O.same _ _ _ h2 hsn⟩
  rcases h with ⟨rfl, h⟩ | ⟨n, rfl, h1, h2⟩
  · have : avB mv gs = false := by
      rw [← Bool.not_eq_true, avB_iff]
      intro hp
      obtain ⟨n, hn, hg⟩ := key.mp hp
      exact h n hn hg
    rw [this]
    rfl
  · rw [avB_iff.mpr (key.mpr ⟨n, h1, h2⟩)]
    rfl
section
variable {K : PySem.W.Frag} {ro : Ro} {ka k1 : Cells} {te : TE} {P : W → Cells → Prop} {bb : Bool}
end
end DL

/-! FW: an own object as a test (own work). -/
namespace DL
open PySem L2 PySem.Spec PyProof.Rows PySem.W
section
variable {X : Cx} {k : Nat} {C f : Addr} {ps : List Str} {E : XK} {Ct' : Ct} {e : Expr} {te : TE}
end
end DL

/-! FX: comprehensions over enumerated sequences of one kind; rows of numbers compared (own work). -/
namespace DL
open PySem L2 PySem.Spec PyProof.Rows PySem.W
section
variable {K : PySem.W.Frag} {ro : Ro} {ka k1 k2 k3 : Cells} {te tf : TE} {tt : TT} {j l : Nat} {x y w : W}
end
section
variable {X : Cx}
end
section
variable {K : PySem.W.Frag} {ro : Ro} {ka k1 k2 : Cells} {te tf : TE} {y : W}
end
section
variable {K : PySem.W.Frag} {ro : Ro} {ka k1 k2 : Cells} {te tf : TE} {y w : W}
end
/-! ### what is told of a locked dict's keys; a dict within a dict -/
section
variable {K : PySem.W.Frag} {ro : Ro} {ka : Cells} {te tg : TE} {tt : TT} {j : Nat} {vs : List Nat}
end
section
variable {K : PySem.W.Frag} {B F0 : Hp} {ro : Ro} {ka : Cells} {ta : List (V × W)} {td ty tv : TE} {De : Ends} {a : Addr} {wd : World} {ks : List NestedKey} {P : W → Cells → Prop}
end
section
variable {K : PySem.W.Frag} {ro : Ro} {ka k1 : Cells} {te : TE} {tt : TT} {j l : Nat} {vs : List Nat}
end
end DL

/-! FY: own errors with three fields (own work). -/
namespace DL
open PySem L2 PySem.Spec PyProof.Rows PySem.W
/-- __init__(self, x, y, z): self.f = x; self.g = y; self.h = z -/
def spI3 (K : PySem.W.Frag) (C : Addr) (f1 f2 f3 : Str) : Sp := fun vs H Q _ => ∃ a y1 y2 y3, vs = [.ref a, y1, y2, y3] ∧ OexC K C ∧ findIn K (.ref C) f1 = some none ∧ findIn K (.ref C) f2 = some none ∧ findIn K (.ref C) f3 = some none ∧ H a = some (exo a C none) ∧
  ∀ d, H d = none → d ≠ a → Q .non (upd (upd (upd (upd H d (exd d [(f1, y1)])) a (exo a C (some d))) d (exd d [(f2, y2), (f1, y1)])) d (exd d [(f3, y3), (f2, y2), (f1, y1)]))
section
variable {K : PySem.W.Frag} {B F F0 : Hp} {ro : Ro} {ka k1 : Cells} {ta : List (V × W)} {sg : L2.St} {H H' : Hp} {tr : TA} {C : Addr} {f1 f2 f3 : Str} {d1 d2 d3 : D} {De : Ends}
end
/-- an own error with three fields -/
structure X3 (P : Program) (w : World) (K : PySem.W.Frag) (mg : Str → Option Value) (base : Heap) (C : Addr) (f1 f2 f3 : Str) : Prop where
  xc : Xc K C
  n1 : findIn K (.ref C) f1 = some none
  n2 : findIn K (.ref C) f2 = some none
  n3 : findIn K (.ref C) f3 = some none
  ex : ∃ fI fd x y z, findIn K (.ref C) "__init__" = some (some (.ref fI)) ∧ typeIn K (.ref fI) = some (.type "function") ∧ FnOk P w K mg base (L2.CX P w) 1 fI fd ["self", x, y, z] (spI3 K C f1 f2 f3) ∧ Binds K fd ["self", x, y, z] []
namespace X3
variable {P : Program} {w : World} {K : PySem.W.Frag} {mg : Str → Option Value} {base : Heap} {C : Addr} {f1 f2 f3 : Str}
noncomputable def fI (Z : X3 P w K mg base C f1 f2 f3) : Addr := Classical.choose Z.ex
noncomputable def fd (Z : X3 P w K mg base C f1 f2 f3) : FuncData := Classical.choose (Classical.choose_spec Z.ex)
noncomputable def px (Z : X3 P w K mg base C f1 f2 f3) : Str := Classical.choose (Classical.choose_spec (Classical.choose_spec Z.ex))
noncomputable def py (Z : X3 P w K mg base C f1 f2 f3) : Str := Classical.choose (Classical.choose_spec (Classical.choose_spec (Classical.choose_spec Z.ex)))
noncomputable def pz (Z : X3 P w K mg base C f1 f2 f3) : Str := Classical.choose (Classical.choose_spec (Classical.choose_spec (Classical.choose_spec (Classical.choose_spec Z.ex))))
theorem all (Z : X3 P w K mg base C f1 f2 f3) : findIn K (.ref C) "__init__" = some (some (.ref Z.fI)) ∧ typeIn K (.ref Z.fI) = some (.type "function") ∧ FnOk P w K mg base (L2.CX P w) 1 Z.fI Z.fd ["self", Z.px, Z.py, Z.pz] (spI3 K C f1 f2 f3) ∧ Binds K Z.fd ["self", Z.px, Z.py, Z.pz] [] :=
  Classical.choose_spec (Classical.choose_spec (Classical.choose_spec (Classical.choose_spec (Classical.choose_spec Z.ex))))
end X3
end DL

/-! FZ: statements that are never reached (own work). -/
namespace DL
open PySem L2 PySem.Spec PyProof.Rows PySem.W
end DL

/-! GA: d.setdefault(text, []), d.clear(), cells behind tuples (own work). -/
namespace DL
open PySem L2 PySem.W PyProof.Rows
section
variable {K : PySem.W.Frag} {B F F0 H H' : Hp} {ro ro' : Ro} {ka k1 k2 kr kt : Cells} {ta : List (V × W)} {sg : L2.St} {te td ty tx : TE} {a : Addr} {De : Ends} {u : TS}
/-! ### what stands in a slot, its cells told as what they stand for -/
/-- d, with the cells kt, is the data e -/
def FzT (K : PySem.W.Frag) (kt : Cells) (d e : D) : Prop := ∀ F H v, Nz F → Thw K F H kt → Rp K F d v → Rp K (thF F H kt) e v
theorem FzT.same (d : D) : FzT K kt d d := fun F H v nz t h => Rp.mono (thF_sub t.no).exz nz _ _ h
theorem FzT.adr {d : D} (h : FrzD K kt a d) : FzT K kt (.adr a) d := fun F H v nz t e => by
  obtain rfl : v = .ref a := e
  exact h F H nz t
theorem FzT.tup {ds es : List D} (h : FzL K kt ds es) : FzT K kt (.tup ds) (.tup es) := fun F H v nz t ⟨b, xs, e1, h1, h2⟩ => ⟨b, xs, e1, h1.elim (fun q => .inl (q.elim (fun q => .inl (thF_sub t.no _ _ q)) fun ⟨z, q⟩ => .inr ⟨z, thF_sub t.no _ _ q⟩)) .inr, h.rp nz t h2⟩
end
end DL
namespace DL
open PySem L2 PySem.Spec PyProof.Rows PySem.W
end DL

/-! GB: generators that raise ahead of their first yield (own work). -/
namespace DL
open PySem L2 PySem.Spec PyProof.Rows PySem.W
/-- how a generator ends that gives nothing: by its contract, which knows no return -/
def spGX (K : PySem.W.Frag) (C : Ct) : SpG := fun vs H _ E => spC K C vs H (fun _ _ => False) E
def GFx (P : Program) (w : World) (K : PySem.W.Frag) (mg : Str → Option Value) (base : Heap) (k : Nat) (f : Addr) (ps : List Str) (C : Ct) : Prop := ∃ fd, GFn P w K mg base k f fd ps (spGX K C) ∧ L2.Binds K fd ps []
noncomputable def GFx.fd {P : Program} {w : World} {K : PySem.W.Frag} {mg : Str → Option Value} {base : Heap} {f : Addr} {ps : List Str} {k : Nat} {C : Ct} (F : GFx P w K mg base k f ps C) : FuncData := Classical.choose F
theorem GFx.ok {P : Program} {w : World} {K : PySem.W.Frag} {mg : Str → Option Value} {base : Heap} {f : Addr} {ps : List Str} {k : Nat} {C : Ct} (F : GFx P w K mg base k f ps C) : GFn P w K mg base k f F.fd ps (spGX K C) := (Classical.choose_spec F).1
theorem GFx.bn {P : Program} {w : World} {K : PySem.W.Frag} {mg : Str → Option Value} {base : Heap} {f : Addr} {ps : List Str} {k : Nat} {C : Ct} (F : GFx P w K mg base k f ps C) : L2.Binds K F.fd ps [] := (Classical.choose_spec F).2
section
variable {P : Program} {w : World} {K : PySem.W.Frag} {mg : Str → Option Value} {base : Heap} {f : Addr} {fd : FuncData} {x qual : Str} {params : Arguments} {st : Stmt} {rest body : List Stmt} {scope : Scope} {ps N : List Str} {k j : Nat} {C : Ct}
end
section
variable {K : PySem.W.Frag} {ro : Ro} {ka k2 : Cells} {tr : TA} {Cc : Ct} {E : XK} {C1 : Addr} {gs : List (Str × D)}
end
section
variable {K : PySem.W.Frag} {ro : Ro} {ka k1 k2 k3 kr : Cells} {te tf : TE} {tr : TA} {Cc : Ct} {E : XK} {C C1 : Addr} {gs : List (Str × D)} {w : W} {ws : List W}
theorem evx_opL {r : R2} (h : EvX K te ro ka E C1 gs k2) : EvX K (tOp r te tf) ro ka E C1 gs k2 := fun B F0 ta sg H Q e q => h B F0 ta sg H _ e q
end
end DL

/-! GC: targets that are fields, items of own objects set by their class (own work). -/
namespace DL
open PySem L2 PySem.W
section
variable {X : Cx} {k : Nat} {C f : Addr} {ps : List Str} {E : XK} {Ct' : Ct} {pos : Pos} {o : Expr} {to : TE} {x : Str}
end
section
variable {K : PySem.W.Frag} {B F0 : Hp} {ro : Ro} {ka k1 k2 k3 kr k4 : Cells} {ta : List (V × W)} {te tf tg : TE} {tr : TA} {w x y z : W} {a C : Addr} {De : Ends} {u : TS} {fs : List (Str × D)} {d d1 d2 : D} {i j : Nat} {f : Str}
end
end DL

/-! GD: x op= y of an own class within a try whose clauses read slots (own work). -/
namespace DL
open PySem L2 PySem.W
section
variable {X : Cx} {k : Nat} {C f : Addr} {ps : List Str} {E : L2.St → XK} {Cc : Ct} {e : Expr} {pos pos' : Pos} {te : TE}
end
section
variable {K : PySem.W.Frag} {B F0 : Hp} {ro : Ro} {ka k1 k2 k3 kr : Cells} {ta : List (V × W)} {te : TE} {C C1 : Addr} {fs gs : List (Str × D)} {De De' : Ends} {l : List Cla} {oi : Option Nat} {ts : Addr → Value → Option Addr → TS} {Wout : WX} {x y : W} {b : Bool} {Cc : Ct} {i : Nat} {E : L2.St → XK}
theorem EvX.less {E : XK} (h : EvX K te ro ka E C1 gs k2) (s : k3.Sublist k2) : EvX K te ro ka E C1 gs k3 := fun B F0 ta sg H Q e q => h B F0 ta sg H Q e fun dx H' e' => q dx H' (e'.less (s.append (List.Sublist.refl _)))
theorem EvX.pm {E : XK} (h : EvX K te ro k1 E C1 gs k2) (s1 : k1.Perm ka) (s2 : k2.Perm k3) : EvX K te ro ka E C1 gs k3 := fun B F0 ta sg H Q e q => h B F0 ta sg H Q (e.perm s1) fun dx H' e' => q dx H' (e'.perm (s2.symm.append_right _))
end
section
variable {K : PySem.W.Frag} {ro ro' : Ro} {t : TGs}
theorem rpl_zip {F : Hp} {B : Hp} : ∀ {ds : List D} {xs : List V}, RpL K F ds xs → ∀ p ∈ xs.zip (ds.map W.val), WOk K B F p.1 p.2
  | [], xs, h => fun p hp => by rw [show xs = [] from h] at hp; cases hp
  | d :: ds, xs, h => fun p hp => by
    obtain ⟨x, ys, rfl, h1, h2⟩ := h
    rcases List.mem_cons.mp hp with rfl | hp
    · exact h1
    · exact rpl_zip h2 p hp
/-- a list is taken apart -/
theorem at_lst {ds : List D} {m : Nat} (hm : ds.length = m) (h : AsL K t (ds.map W.val) ro ro') : AsT K (gLst K m t) (.val (.lst ds)) ro ro' := fun B F0 ka ta sg H v Q e hv q => by
  obtain ⟨F, gr, ef⟩ := id e
  obtain ⟨a, xs, rfl, s1, r1⟩ := Lk.vl.get ef (ef.tm _ hv)
  refine ⟨a, xs, rfl, .inl s1, by rw [rpl_len r1, hm], h B F0 ka (xs.zip (ds.map W.val) ++ ta) sg H xs Q ?_ (by rw [List.length_map, rpl_len r1]) (fun p hp => List.mem_append_left _ hp) fun sg' e' => q sg' (e'.held fun p hp => List.mem_append_right _ hp)⟩
  exact ⟨F, gr, { ef with tm := fun p hp => (List.mem_append.mp hp).elim (rpl_zip r1 p) (ef.tm p) }⟩
theorem at_l2 {d1 d2 : D} {i j : Nat} : AsT K (gLst K 2 (gCons (gName i) (gCons (gName j) gNil))) (.val (.lst [d1, d2])) ro ((ro.set i (some (.val d1))).set j (some (.val d2))) := at_lst rfl (al_cons at_n (al_cons at_n al_nil))
end
end DL

/-! GE: for x, y in zip(t, l), t a tuple, l a list: the library's GoesN.zip2 over its Draws, told for the hand layer (own work). -/
namespace DL
open PySem L2 PySem.W PyProof.Rows
/-- what stands at turn i -/
structure ZpM (a b z TI TO i1 i2 : Addr) (i : Nat) (h : Heap) : Prop where
  zp : IsZip h z TI TO .none
  ti : IsTupOf2 h TI (.ref i1) (.ref i2)
  to : ∃ x y, IsTupOf2 h TO x y
  t1 : h.IsTupleIter i1 a i
  l2 : h.IsListIter i2 b i
  sep : ZipSep2 z TI TO i1 i2 [i1, a] [i2, b]
namespace ZpM
variable {a b z TI TO i1 i2 : Addr} {i : Nat} {h : Heap}
theorem cells (q : ZpM a b z TI TO i1 i2 i h) : ∀ c ∈ [z, TI, TO, i1, i2], ∃ o, h.get? c = some o ∧ ∀ v, o.data ≠ .cell v := by
  obtain ⟨e0, e1, ⟨_, _, e2⟩, ⟨o3, e3, _, d3⟩, ⟨o4, e4, _, d4⟩, _⟩ := q
  simp only [List.forall_mem_cons, List.not_mem_nil, false_imp_iff, implies_true, and_true]
  exact ⟨⟨_, e0, fun _ c => nomatch c⟩, ⟨_, e1, fun _ c => nomatch c⟩, ⟨_, e2, fun _ c => nomatch c⟩, ⟨o3, e3, fun _ c => nomatch d3.symm.trans c⟩, o4, e4, fun _ c => nomatch d4.symm.trans c⟩
theorem le (q : ZpM a b z TI TO i1 i2 i h) {c T : Addr} (hc : c ∈ [z, TI, TO, i1, i2]) (hT : h.objs.size ≤ T) : c ≠ T := fun e =>
  let ⟨_, y, _⟩ := q.cells c hc
  Nat.lt_irrefl _ (Nat.lt_of_lt_of_le (e ▸ Heap.lt_size y) hT)
end ZpM
end DL
namespace DL
open PySem L2 PySem.W
section
variable {K : PySem.W.Frag} {ro : Ro} {ka k1 k2 : Cells} {te tf : TE}
end
end DL

/-! GG: two dicts with tuples as keys compared, where every value is True (own work). -/
namespace DL
open PySem L2 PySem.W PyProof.Rows
section
variable {prog : Program} {w : World} {A : Around} {E : Value → Shared → Prop} {s : Shared}
variable {K : Type} [DecidableEq K] {knd : HeapKind prog w K}
end
theorem SeesN.true {xs : List (NestedKey × Addr × V)} {qs : List (NestedKey × Addr × Value)} (r : SeesN xs qs) (t : ∀ p ∈ xs, p.2.2 = .bl true) : ∀ q ∈ qs, q.2.2 = .bool true := by
  unfold SeesN at r
  induction r with
  | nil => exact fun _ h => nomatch h
  | @cons p q ps qs h _ ih =>
    intro x hx
    rcases List.mem_cons.mp hx with rfl | hx
    · have h3 := h.2.2
      rw [t p List.mem_cons_self] at h3
      exact h3
    · exact ih (fun p hp => t p (List.mem_cons_of_mem _ hp)) x hx
theorem SeesN.all {xs ys : List (NestedKey × Addr × V)} {qs rs : List (NestedKey × Addr × Value)} (r : SeesN xs qs) (t : SeesN ys rs) : (qs.all fun q => (atKey rs q.1).isSome) = xs.all fun p => hasT (rowN ys) p.1 := by
  unfold SeesN at r
  induction r with
  | nil => rfl
  | @cons p q ps qs h _ ih =>
    rw [List.all_cons, List.all_cons, ih, ← h.1]
    rcases t.has p.1 with ⟨_, h1, h2⟩ | ⟨_, _, _, h1, h2, _⟩ <;> rw [h1, h2] <;> rfl
section
variable {K : PySem.W.Frag} {wd : World} {ro : Ro} {ka k1 k2 : Cells} {te tf : TE} {x y : W} {ds es : List (NestedKey × D)} {b1 b2 : Bool}
end
end DL

/-! GH: comprehensions over rows of three (own work). -/
namespace DL
open PySem L2 PySem.W
section
variable {K : PySem.W.Frag} {B F F0 : Hp} {ro : Ro} {ka k1 : Cells} {ta : List (V × W)} {sg : L2.St} {H : Hp} {te : TE} {tt : TT} {d1 d2 d3 : D} {j l o : Nat}
end
section
variable {K : PySem.W.Frag} {B F0 : Hp} {ro : Ro} {ka k1 : Cells} {ta : List (V × W)} {sg : L2.St} {H : Hp} {te : TE} {De : Ends} {u : TS} {P : W → Cells → Prop}
end
end DL

/-! GF: f-strings and join, by data (own work). -/
namespace DL
open PySem L2 PySem.W PyProof.Rows
section
variable {K : PySem.W.Frag} {ro : Ro} {ka k1 k2 : Cells} {te to : TE} {w : W}
theorem rpl_txt {F : Hp} : ∀ {ss : List Str} {xs : List V}, RpL K F (stD ss) xs → xs = ss.map V.str
  | [], _, h => h
  | s :: ss, _, h => by
    obtain ⟨x, ys, rfl, hx, hy⟩ := h
    rw [show x = V.str s from hx, rpl_txt hy]
    rfl
/-- the parts of an f-string: the texts that they give -/
inductive EvJ (K : PySem.W.Frag) (ro : Ro) : List TE → Cells → List Str → Cells → Prop where
  | nil {ka : Cells} : EvJ K ro [] ka [] ka
  | cons {t : TE} {ts : List TE} {ka k1 k : Cells} {s : Str} {r : List Str} (h : EvD K t ro ka (.val (.str s)) k1) (hr : EvJ K ro ts k1 r k) : EvJ K ro (t :: ts) ka (s :: r) k
abbrev rJoin (K : PySem.W.Frag) : V → List V → Hp → VK → Prop := fun x xs H Q => ∃ a p, ∃ ys : List Str, x = .str a ∧ xs = [.ref p] ∧ (SqL K H p (ys.map V.str) ∨ SqT K H p (ys.map V.str)) ∧ (ys.map (·.length)).sum + ys.length * a.length ≤ 16777216 ∧ Q (.str (Txt.join a ys)) H
/-- a.join(texts) -/
theorem ev_join {a : Str} {ss : List Str} {t : Bool} (h : EvD K to ro ka (.val (.str a)) k1) (h2 : EvD K te ro k1 w k2) (l : Lk k2 w t (stD ss) false) (hz : (ss.map (·.length)).sum + ss.length * a.length ≤ 100000) :
    EvD K (tM1 (rJoin K) to te) ro ka (.val (.str (Txt.join a ss))) k2 := fun B F0 ta sg H Q e q =>
  h B F0 ta sg H _ e fun v H1 e1 => by
    have hv := e1.tm_str (v := v) (i := a) List.mem_cons_self
    subst hv
    refine ⟨⟨a, rfl⟩, h2 B F0 _ sg H1 _ e1 fun u H2 e2 => ?_⟩
    obtain ⟨F, g, ef⟩ := id e2
    obtain ⟨p, xs, rfl, s1, r1⟩ := l.get ef (ef.tm _ List.mem_cons_self)
    have e := rpl_txt r1
    subst e
    refine ⟨a, p, ss, rfl, rfl, ?_, by omega, q _ _ ((e2.held fun z hz => List.mem_cons_of_mem _ (List.mem_cons_of_mem _ hz)).push_imm fun _ => rfl)⟩
    cases t with
    | true => exact .inr s1
    | false => exact .inl (.inl s1)
end
end DL

/-! GI: a for loop within a generator (own work). -/
namespace DL
open PySem L2 PySem.Spec PyProof.Rows PySem.W GenW
section
variable {prog : Program} {w : World} {A : Around} {R : GenEnd} {Y : Protocol} {n : Nat} {s₀ : Shared} {fs : List Frame} {s : Shared} {env : Env}
end
section
variable {X : Cx}
end

/-! ### the contract of a generator: what it hands out, as data -/
def spGY (K : PySem.W.Frag) (C : Ct) : SpG := fun vs H cont E => ∃ B F ws ka out, C ws ka out ∧ vs.length = ws.length ∧ En K B F [] ka (vs.zip ws) [] H ∧
  (∀ ds k ys H', out (.ret (.lst ds)) k → ys.length = ds.length → En K B F [] k (ys.zip (ds.map W.val)) [] H' → cont ys H') ∧ RxOk K B F out E
def GFy (P : Program) (w : World) (K : PySem.W.Frag) (mg : Str → Option Value) (base : Heap) (k : Nat) (f : Addr) (ps : List Str) (C : Ct) : Prop := ∃ fd, GFn P w K mg base k f fd ps (spGY K C) ∧ L2.Binds K fd ps []
noncomputable def GFy.fd {P : Program} {w : World} {K : PySem.W.Frag} {mg : Str → Option Value} {base : Heap} {f : Addr} {ps : List Str} {k : Nat} {C : Ct} (F : GFy P w K mg base k f ps C) : FuncData := Classical.choose F
theorem GFy.ok {P : Program} {w : World} {K : PySem.W.Frag} {mg : Str → Option Value} {base : Heap} {f : Addr} {ps : List Str} {k : Nat} {C : Ct} (F : GFy P w K mg base k f ps C) : GFn P w K mg base k f F.fd ps (spGY K C) := (Classical.choose_spec F).1
theorem GFy.bn {P : Program} {w : World} {K : PySem.W.Frag} {mg : Str → Option Value} {base : Heap} {f : Addr} {ps : List Str} {k : Nat} {C : Ct} (F : GFy P w K mg base k f ps C) : L2.Binds K F.fd ps [] := (Classical.choose_spec F).2
section
variable {K : PySem.W.Frag} {B F0 : Hp} {ro : Ro} {k k1 : Cells} {wi : TI} {ds : List D} {j : Nat} {cont : List V → Hp → Prop}
end
section
variable {P : Program} {w : World} {K : PySem.W.Frag} {mg : Str → Option Value} {base : Heap} {f : Addr} {x qual : Str} {params : Arguments} {st : Stmt} {body : List Stmt} {scope : Scope} {ps N : List Str} {k : Nat} {C : Ct} {tg iter e : Expr} {yp pos pos2 : Pos}
end
section
variable {K : PySem.W.Frag} {ro : Ro} {ka k1 k2 kr : Cells} {tr : TA} {Cc : Ct} {E E' : XK} {C1 : Addr} {gs : List (Str × D)} {ws : List W} {ds : List D}
end
end DL

/-! GJ: calls within try of whose end a word tells, errors too (own work). -/
namespace DL
open PySem L2 PySem.Spec PyProof.Rows PySem.W
/-- te ends with a value, an error with fields, or one without: words tell of each -/
def EvXR (K : PySem.W.Frag) (te : TE) (ro : Ro) (ka : Cells) (E : XK) (P : W → Cells → Prop) (PX : Addr → List (Str × D) → Cells → Prop) (P0 : Addr → Cells → Prop) : Prop := ∀ B F0 ta sg H (Q : VK), En K B F0 ro ka ta sg H →
  (∀ w k v H', P w k → En K B F0 ro k ((v, w) :: ta) sg H' → Q v H') → (∀ C gs k dx H', PX C gs k → En K B F0 ro (k ++ [(dx, .xd gs)]) ta sg H' → E (.ref C) (some dx) H') → (∀ C k H', P0 C k → En K B F0 ro k ta sg H' → E (.ref C) none H') → te sg H Q
section
variable {K : PySem.W.Frag} {B F0 : Hp} {ro : Ro} {ka k1 k2 k3 kr : Cells} {ta : List (V × W)} {sg : L2.St} {H : Hp} {te tf : TE} {tr : TA} {C C1 : Addr} {E : XK} {De De' : Ends} {l : List Cla} {Wout : WX} {P P2 : W → Cells → Prop} {PX : Addr → List (Str × D) → Cells → Prop} {P0 : Addr → Cells → Prop}
/-- .. what comes back, frozen -/
theorem EvXR.imp (h : EvXR K te ro ka E P PX P0) (i : ∀ w k, P w k → P2 w k) : EvXR K te ro ka E P2 PX P0 := fun B F0 ta sg H Q e q qx q0 => h B F0 ta sg H Q e (fun w k v H' p => q w k v H' (i w k p)) qx q0
end
end DL

/-! GK: defs that are called while an exception is handled, of which nothing is known but its object; they raise nothing (own work). -/
namespace DL
open PySem L2 PySem.Spec PyProof.Rows PySem.W
/-- nothing is raised -/
abbrev noX : XK := fun _ _ _ => False
/-- a def that ends with a value, whatever exception is handled; p: an object that stands beside what is tracked -/
structure FnM (P : Program) (w : World) (K : PySem.W.Frag) (mg : Str → Option Value) (base : Heap) (k : Nat) (f : Addr) (ps : List Str) (C : Ct) : Prop where
  len : ∀ ws ka out, C ws ka out → ws.length = ps.length
  run : ∀ (A : Around) (outer : List Env) (s : Shared) (H : Hp) (us : List Value) (vs : List V) (Q : VK) (p : Addr × Obj), L2H.RoomH k A → L2H.PinOk outer H s p → Env0 P w K mg base A outer s H → Vals vs us → spC K C vs H Q noX →
    codeAny (model P w) A (.call (.ref f) ⟨us, []⟩) (fun r s' => ∃ u, r = .ok (.ret u) ∧ CE outer P w H s Q u s') s
section
variable {P : Program} {w : World} {K : PySem.W.Frag} {mg : Str → Option Value} {base : Heap} {f : Addr} {fd : FuncData} {x qual : Str} {params : Arguments} {body : List Stmt} {scope : Scope} {ps N : List Str} {k j : Nat} {C : Ct}
theorem FnM.up (F : FnM P w K mg base j f ps C) (h : j ≤ k) : FnM P w K mg base k f ps C := ⟨F.len, fun A outer s H us vs Q p hr => F.run A outer s H us vs Q p (hr.mono h)⟩
end
end DL

/-! GL: errors that leave x[i] = v, a method on cells, and the arguments of C(..) (own work). -/
namespace DL
open PySem L2 PySem.W
section
variable {K : PySem.W.Frag} {B F0 : Hp} {ro : Ro} {ka k1 k2 k3 k4 kr : Cells} {ta : List (V × W)} {te tf tg : TE} {tr : TA} {De : Ends} {u : TS} {C C1 : Addr} {fs gs : List (Str × D)} {out : Oc} {E E' : XK} {x y z w : W} {b : Bool} {Cc : Ct} {ws : List W}
end
end DL

/-! GM: sorted(set(texts)) (own work). -/
namespace DL
open PySem L2 PySem.W PyProof.Rows PySem.Froz

/-! ### a set of texts that can be walked -/
theorem tail_ris {ep : Nat} {es : Array (Int × Value)} {t : SetTable} {b : Bool} (r : Ris t.place.toList) : Ris (tailTx ep es t b).2.2.place.toList := by
  unfold tailTx
  split
  · exact relayAll_ris _ _ _
  · exact r
theorem tail_led {ep : Nat} {es : Array (Int × Value)} {t : SetTable} {b : Bool} : (tailTx ep es t b).2.2.led = t.led := by
  unfold tailTx
  split
  · exact relayAll_led _ _ _
  · rfl
theorem addTx_ris {D : SD} {h : Int} {v : Value} (r : Ris D.2.2.place.toList) : Ris (addTx h v D).2.2.place.toList :=
  tail_ris (by split <;> exact layNew_ris _ _ _ _ r)
theorem addTx_led {D : SD} {h : Int} {v : Value} : (addTx h v D).2.2.led = D.2.2.led :=
  tail_led.trans (by split <;> exact layNew_led _ _ _ _)
def strV : Value → Str
  | .str k _ => k
  | _ => Str.empty
theorem tail_perm {ep : Nat} {es : Array (Int × Value)} {t : SetTable} {b : Bool} : (tailTx ep es t b).1.toList.Perm es.toList := by
  unfold tailTx
  split
  · exact relayAll_perm _ _ _
  · exact List.Perm.refl _
/-- the texts that lie there -/
def txs (D : SD) : List Str := D.1.toList.map fun e => strV e.2
theorem txs_add {D : SD} {h : Int} {k : Str} {u : Tok} {l : List Str} (p : (txs D).Perm l) : (txs (addTx h (.str k u) D)).Perm (k :: l) := by
  have e : (addTx h (.str k u) D).1.toList.Perm (D.1.toList ++ [(h, .str k u)]) := tail_perm.trans ((layNew_perm _ _ _ _).trans (by rw [Array.toList_push]))
  refine (e.map fun e => strV e.2).trans ?_
  rw [List.map_append]
  exact (List.perm_append_singleton _ _).trans (p.cons k)
/-- the set of the texts l at a -/
def SxAt (P : Program) (w : World) (h : Heap) (a : Addr) (l : List Str) : Prop := ∃ D : SD, h.get? a = some (sObj "set" D) ∧ TxOk P w D l ∧ (txs D).Perm l ∧ Ris D.2.2.place.toList ∧ (w.params.followText "set-order" = true ∨ D.2.2.led = true)
theorem SxAt.keep {P : Program} {w : World} {h h' : Heap} {a : Addr} {l : List Str} (x : SxAt P w h a l) (k : ∀ o, h.get? a = some o → h'.get? a = some o) : SxAt P w h' a l :=
  let ⟨D, ho, r⟩ := x
  ⟨D, k _ ho, r⟩
theorem SxAt.new {P : Program} {w : World} {h : Heap} {a : Addr} (ho : h.get? a = some { cls := .type "set", dict := none, data := .set #[] 0 (.fresh 0 0 (!w.params.followText "set-order")) }) : SxAt P w h a [] :=
  ⟨(#[], 0, .fresh 0 0 (!w.params.followText "set-order")), ho, TxOk.nil rfl, List.Perm.refl _, List.Pairwise.nil, by
    show _ ∨ (!w.params.followText "set-order") = true
    cases w.params.followText "set-order" <;> simp⟩
/-- one text more -/
def addS (l : List Str) (k : Str) : List Str := if k ∈ l then l else k :: l
theorem addS_len (l : List Str) (k : Str) : (addS l k).length ≤ l.length + 1 := by
  unfold addS
  split
  · omega
  · exact Nat.le_refl _
theorem mem_addS {l : List Str} {k x : Str} : x ∈ addS l k ↔ x = k ∨ x ∈ l := by
  unfold addS
  split
  · rename_i h
    exact ⟨.inr, fun q => q.elim (fun e => e ▸ h) id⟩
  · exact List.mem_cons
section
variable {P : Program} {w : World} {A : Around} {E : Value → Shared → Prop} {s : Shared}
theorem sx_add {a : Addr} {l : List Str} {k : Str} {u : Tok} {Q : Bool → Shared → Prop} (x : SxAt P w s.heap a l) (hb : l.length + 1 < scanBound)
    (q : ∀ b h', Heap.SameBut a s.heap h' → SxAt P w h' a (addS l k) → Q b { s with heap := h', toks := s.toks + 1 }) : wpAny (model P w) A (setAdd a (.str k u)) Q E s := by
  obtain ⟨D, ho, T, nd, r, ld⟩ := x
  unfold setAdd
  refine wpAny_holding (wpAny_bind ((PySem.strKind P w).pyHash (k := k) (is_str _ _) ?_))
  by_cases hk : k ∈ l
  · have z : addS l k = l := if_pos hk
    have fin := q false s.heap (Heap.SameBut.refl a _) (by rw [z]; exact ⟨D, ho, T, nd, r, ld⟩)
    obtain ⟨es, ep, t⟩ := D
    have hd : (sObj "set" (es, ep, t)).data = .set es ep t := rfl
    have hl : es.size = l.length := T.sz
    unfold setAddHashed setAddHashedIn
    refine wpAny_holding (wpAny_bind (wpAny_setState_of (s := { s with toks := s.toks + 1 }) ho hd T.fit ?_))
    dsimp only
    rw [byScan_of rfl (show es.size < scanBound by omega) T.el]
    simp only [↓reduceIte]
    unfold setAddByScan
    refine wpAny_bind (wpAny_bind (wpAny_rule (wpAny_bind (wpAny_setScan_of (knd := PySem.strKind P w) (k := k) (is_str _ _) ho hd T.fit T.el ?_))))
    obtain ⟨e, he, hi⟩ := (T.mem k).1 hk
    cases f : List.findIdx? (fun e => (PySem.strKind P w).is k e.2) es.toList with
    | none =>
      have := List.findIdx?_eq_none_iff.mp f e he
      rw [hi] at this
      cases this
    | some j => exact wpAny_pure (wpAny_pure fin)
  · have z : addS l k = k :: l := if_neg hk
    refine add_x (s := { s with toks := s.toks + 1 }) ho T hk hb (q true _ (Heap.SameBut.update _ _ _) ?_)
    rw [z]
    exact ⟨_, get_upd _ ho rfl, add_ok u T, txs_add nd, addTx_ris r, by rw [addTx_led]; exact ld⟩

/-! ### set(x): whatever x hands out is put in, one by one -/
/-- the set's filling: J i of the heap where i things are in -/
theorem fill_set {I S : Addr} {fp wr : List Addr} {G : Array GenState → Array GenState → Prop} {n : Nat} {Pv : Nat → Value → Prop} {St : Nat → Shared → Prop} {R : Result → Shared → Prop} (J : Nat → Heap → Prop)
    (W : WalksS P w A.in1 I fp wr G n Pv St) (hS : S ∉ fp) (keep : ∀ i h h', J i h → (∀ o, h.get? S = some o → h'.get? S = some o) → J i h')
    (put : ∀ i v s1 (Q : Bool → Shared → Prop) E', i < n → Pv i v → J i s1.heap → (∀ b h' tk, s1.toks ≤ tk → Heap.SameBut S s1.heap h' → J (i + 1) h' → Q b { s1 with heap := h', toks := tk }) → wpAny (model P w) A.in1 (setAdd S v) Q E' s1) :
    ∀ (k i : Nat) (s1 : Shared), i + k = n → St i s1 → J i s1.heap → (∀ s2, Moved (S :: wr) G s1 s2 → J n s2.heap → R (.ok (.ret .none)) s2) → codeAny (model P w) A (.builtin "set.update.loop" ⟨[.ref S, .ref I], []⟩) R s1
  | k, i, s1, e, st, j, fin => by
    have out : ∀ {s2 s3 : Shared}, Moved wr G s2 s3 → Moved (S :: wr) G s2 s3 := fun m => m.mono fun b hb => List.mem_cons_of_mem _ hb
    have same : ∀ {s2 s3 : Shared}, Moved wr G s2 s3 → ∀ o, s2.heap.get? S = some o → s3.heap.get? S = some o := fun m o q => m.heap S o (fun z => hS (W.sub _ z)) q
    refine codeAny_builtin F.entry_set_update_loop ?_
    rw [Around.under_plainId F.plain_set_update_loop _]
    show wpAny _ A.in1 (pyNext (.ref I) >>= _) _ _ s1
    match k, e with
    | 0, e =>
      subst e
      exact wpAny_bind (W.done s1 _ _ st fun s2 m => wpAny_pure (fin s2 (out m) (keep _ _ _ j (same m))))
    | k + 1, e =>
      refine wpAny_bind (W.item i s1 _ _ (by omega) st fun v s2 hv st2 m => ?_)
      show wpAny _ A.in1 (holding [v] (setAdd S v) >>= _) _ _ s2
      refine wpAny_bind (wpAny_holding (put i v s2 _ _ (by omega) hv (keep _ _ _ j (same m)) fun b h' tk ht sb j2 => ?_))
      refine wpAny_pure ⟨plainId_quiet F.plain_set_update_loop _, fill_set J W hS keep put k (i + 1) _ (by omega) (W.frame _ s2 _ _ st2 ht fun c hc o q => ?_) j2 fun s3 m3 j3 => fin s3 (Moved.trans W.gtrans ((out m).then_heap ht fun c o hc q => ?_) m3) j3⟩
      · rw [sb.2 c fun z => hS (z ▸ hc)]
        exact q
      · rw [sb.2 c fun z => hc (z ▸ List.mem_cons_self)]
        exact q
/-- the new object -/
abbrev newSet0 (w : World) : Obj := { cls := .type "set", dict := none, data := .set #[] 0 (.fresh 0 0 (!w.params.followText "set-order")) }
/-- set.__init__(x) fills S -/
theorem init_set {T : String} {x : Value} {S : Addr} {R : Shared → Prop} (tS : s.TypeIs (.ref S) "set") (hS : s.heap.get? S = some (newSet0 w)) (hT : s.TypeIs x T) (n1 : isSubtype (.type T) (.type "set") = pure false) (n2 : isSubtype (.type T) (.type "frozenset") = pure false) (n3 : (Value.type T == Value.type "dict") = false)
    (it : ∀ A' : Around, A'.handled = A.handled → wpAny (model P w) A' (pyIter x) (fun I s1 => codeAny (model P w) A' (.builtin "set.update.loop" ⟨[.ref S, I], []⟩) (wants (fun r s2 => R s2) E) s1) E s) :
    codeAny (model P w) A (.call (.builtin "set.__init__") ⟨[.ref S, x], []⟩) (wants (fun r s2 => r = .none ∧ R s2) E) s := by
  refine codeAny_call_builtin PySem.F.called_set.init.plain PySem.F.entry_set_init (check_set_init_1 tS ?_)
  unfold Builtin.«set.__init__» noKeywords Builtin.Frozenset.updateFrom
  generalize hPI : pyIter = PI
  wp_walk
  subst hPI
  refine wpAny_mono (it _ rfl) (fun I s1 h => ?_) fun e s1 h => h
  refine wpAny_bind (wpAny_runValue (codeAny_mono h fun r s2 hr => ?_))
  cases r with
  | error e => exact hr
  | ok f =>
    cases f with
    | ret v => exact wpAny_pure (wpAny_pure ⟨rfl, hr⟩)
    | _ => exact hr.elim
theorem kept_type {h : Heap} {x : Value} {T : String} {o : Obj} (hT : s.TypeIs x T) : Shared.TypeIs { s with heap := s.heap.push o } x T := by
  cases x <;> first | exact hT | exact let ⟨u, hu, c⟩ := hT; ⟨u, Heap.get?_push_of_some _ hu, c⟩
/-- set(x), by what x hands out -/
theorem call_set {T : String} {x : Value} {Q : Value → Shared → Prop} (hT : s.TypeIs x T) (n1 : isSubtype (.type T) (.type "set") = pure false) (n2 : isSubtype (.type T) (.type "frozenset") = pure false) (n3 : (Value.type T == Value.type "dict") = false)
    (it : ∀ A' : Around, A'.handled = A.handled → wpAny (model P w) A' (pyIter x) (fun I s1 => codeAny (model P w) A' (.builtin "set.update.loop" ⟨[.ref s.heap.objs.size, I], []⟩) (wants (fun r s2 => Q (.ref s.heap.objs.size) s2) E) s1) E { s with heap := s.heap.push (newSet0 w) }) :
    wpAny (model P w) A (call (.type "set") [x]) Q E s := by
  have hS : (s.heap.push (newSet0 w)).get? s.heap.objs.size = some (newSet0 w) := Heap.get?_push_size _ rfl
  have tS : Shared.TypeIs { s with heap := s.heap.push (newSet0 w) } (.ref s.heap.objs.size) "set" := ⟨_, hS, rfl⟩
  have ini : codeAny (model P w) A.in1 _ _ _ := init_set (A := A.in1) tS hS (kept_type (h := s.heap) hT) n1 n2 n3 it
  have made := PySem.F.called_set.made
  have sub := PySem.F.called_set.sub
  have nt := PySem.F.called_set.notType
  have can := PySem.F.called_set.canCreate
  have chk := PySem.F.typeCall_set_1 x
  have look := PySem.F.called_set.init.lookup
  have bind := PySem.F.called_set.init.bind (.ref s.heap.objs.size)
  obtain ⟨c, tl, mro⟩ := PySem.F.called_set.mro
  refine wpAny_call (codeAny_of_tree (wpAny_pure ⟨Code.quiet_builtin _ (by decide +kernel), codeAny_builtin PySem.F.entry_type_call ?_⟩))
  rw [Around.under_plain (weight_type_call_type "set" [x] []) rfl]
  repeat (any_goals (first | assumption | wp_step))
  refine codeAny_mono (code_set_led1 x (Q₁ := fun v s1 => v = .ref s.heap.objs.size ∧ s1 = { s with heap := s.heap.push (newSet0 w) }) (E := E) ⟨rfl, rfl⟩) fun r s1 h => ?_
  match r, h with
  | .error e, h => exact h
  | .ok (.ret v), h =>
    obtain ⟨rfl, rfl⟩ := h
    repeat (any_goals (first | assumption | wp_step))
    refine codeAny_mono ini fun r2 s2 h2 => ?_
    match r2, h2 with
    | .error e, h2 => exact h2
    | .ok (.ret v), h2 =>
      obtain ⟨rfl, hq⟩ := h2
      repeat (any_goals (first | assumption | wp_step))

/-! ### set(texts) -/
/-- the texts of a list, each once -/
def onceS (xs : List Str) : List Str := xs.foldl addS []
theorem mem_onceS {x : Str} : ∀ {xs l : List Str}, x ∈ xs.foldl addS l ↔ x ∈ l ∨ x ∈ xs
  | [], l => by simp
  | y :: r, l => by
    rw [List.foldl_cons, mem_onceS, mem_addS, List.mem_cons]
    constructor
    · rintro ((h | h) | h)
      · exact .inr (.inl h)
      · exact .inl h
      · exact .inr (.inr h)
    · rintro (h | h | h)
      · exact .inl (.inr h)
      · exact .inl (.inl h)
      · exact .inr h
theorem addS_nd {l : List Str} {k : Str} (h : l.Nodup) : (addS l k).Nodup := by
  unfold addS
  split
  · exact h
  · rename_i n
    exact List.nodup_cons.mpr ⟨n, h⟩
theorem onceS_nd : ∀ (xs : List Str) {l : List Str}, l.Nodup → (xs.foldl addS l).Nodup
  | [], _, h => h
  | _ :: r, _, h => onceS_nd r (addS_nd h)
theorem onceS_len : ∀ (xs l : List Str), (xs.foldl addS l).length ≤ l.length + xs.length
  | [], l => Nat.le_refl _
  | y :: r, l => by
    have := onceS_len r (addS l y)
    have := addS_len l y
    rw [List.foldl_cons, List.length_cons]
    omega
theorem once_step {xs : List Str} {i : Nat} {k : Str} (h : xs[i]? = some k) : onceS (xs.take (i + 1)) = addS (onceS (xs.take i)) k := by
  unfold onceS
  rw [List.take_add_one, h, List.foldl_append]
  rfl
/-- the filling with texts -/
theorem fill_txt {I S : Addr} {fp wr : List Addr} {G : Array GenState → Array GenState → Prop} {xs : List Str} {Pv : Nat → Value → Prop} {St : Nat → Shared → Prop} {R : Result → Shared → Prop}
    (W : WalksS P w A.in1 I fp wr G xs.length Pv St) (hS : S ∉ fp) (hv : ∀ i v, Pv i v → ∃ k u, xs[i]? = some k ∧ v = .str k u) (hb : xs.length + 1 < scanBound) (st : St 0 s) (x : SxAt P w s.heap S [])
    (fin : ∀ s2, Moved (S :: wr) G s s2 → SxAt P w s2.heap S (onceS xs) → R (.ok (.ret .none)) s2) : codeAny (model P w) A (.builtin "set.update.loop" ⟨[.ref S, .ref I], []⟩) R s := by
  refine fill_set (fun i h => SxAt P w h S (onceS (xs.take i))) W hS (fun i h h' j k => j.keep k) (fun i v s1 Q E' hi pv j q => ?_) xs.length 0 s (by omega) st x fun s2 m j => fin s2 m (by rw [List.take_length] at j; exact j)
  obtain ⟨k, u, hk, rfl⟩ := hv i v pv
  have hl := onceS_len (xs.take i) []
  rw [List.length_take] at hl
  refine sx_add j (by simp only [onceS]; simp at hl; omega) fun b h' sb j2 => q b h' _ (Nat.le_succ _) sb ?_
  rw [once_step hk]
  exact j2
theorem str_of {us : List Value} {xs : List Str} (r : Vals (xs.map V.str) us) {i : Nat} {v : Value} (h : us.toArray[i]? = some v) : ∃ k u, xs[i]? = some k ∧ v = .str k u := by
  rw [List.getElem?_toArray] at h
  induction xs generalizing us i with
  | nil =>
    cases r
    simp at h
  | cons x xs ih =>
    cases r with
    | cons a b =>
      cases i with
      | zero =>
        obtain ⟨u, e⟩ := a
        simp at h
        exact ⟨x, u, rfl, h ▸ e⟩
      | succ i => exact ih b (by simpa using h)
/-- set(a list or tuple of texts) -/
theorem set_txt {l : Addr} {us : List Value} {xs : List Str} {Q : Value → Shared → Prop} (hh : A.handled = none) (hl : s.heap.IsList l us.toArray ∨ s.heap.IsTuple l us.toArray) (r : Vals (xs.map V.str) us) (hb : xs.length + 1 < scanBound)
    (q : ∀ h' tk, (∀ b o, s.heap.get? b = some o → h'.get? b = some o) → SxAt P w h' s.heap.objs.size (onceS xs) → Q (.ref s.heap.objs.size) { s with heap := h', toks := tk }) : wpAny (model P w) A (call (.type "set") [.ref l]) Q E s := by
  have hlen : us.toArray.size = xs.length := by
    rw [List.size_toArray, ← r.length, List.length_map]
  have hz : (s.heap.push (newSet0 w)).objs.size = s.heap.objs.size + 1 := Heap.size_push ..
  have hS : (s.heap.push (newSet0 w)).get? s.heap.objs.size = some (newSet0 w) := Heap.get?_push_size _ rfl
  have lt : l < s.heap.objs.size := by
    rcases hl with ⟨o, e, _⟩ | ⟨o, e, _⟩ <;> exact Heap.lt_size e
  have run : ∀ (A' : Around) (o : Obj) (St : Nat → Heap → Prop), Walks P w A'.in1 (s.heap.objs.size + 1) [s.heap.objs.size + 1, l] [s.heap.objs.size + 1] us.toArray.size (fun i v => us.toArray[i]? = some v) St → St 0 ((s.heap.push (newSet0 w)).push o) →
      codeAny (model P w) A' (.builtin "set.update.loop" ⟨[.ref s.heap.objs.size, .ref (s.heap.objs.size + 1)], []⟩) (wants (fun r s2 => Q (.ref s.heap.objs.size) s2) E) { s with heap := (s.heap.push (newSet0 w)).push o } := fun A' o St W st => by
    rw [hlen] at W
    refine fill_txt (xs := xs) W.toS (by simp only [List.mem_cons, List.mem_singleton, List.not_mem_nil, or_false, not_or]; exact ⟨Nat.ne_of_lt (Nat.lt_succ_self _), Nat.ne_of_gt lt⟩) (fun i v h => str_of r h) hb st (SxAt.new (Heap.get?_push_of_some _ hS)) fun s2 m x => ?_
    rw [m.eq_with] at x ⊢
    refine q _ _ (fun b o2 e => m.heap b o2 ?_ (Heap.get?_push_of_some _ (Heap.get?_push_of_some _ e))) x
    have := Heap.lt_size e
    simp only [List.mem_cons, List.mem_singleton, List.not_mem_nil, or_false, not_or]
    exact ⟨Nat.ne_of_lt this, Nat.ne_of_lt (Nat.lt_succ_of_lt this)⟩
  rcases hl with hl | hl
  · refine call_set hl.typeIs PySem.F.sub_list_set PySem.F.sub_list_frozenset rfl fun A' ha => wpAny_pyIter_list (hl.push _) ?_
    rw [hz]
    exact run A' _ _ (Walks.list (by rw [Around.in1_handled, ha, hh]) _ l (Nat.ne_of_lt (Nat.lt_succ_of_lt lt)) us.toArray) ⟨⟨_, hz ▸ Heap.get?_push_size _ rfl, rfl, rfl⟩, (hl.push _).push _⟩
  · refine call_set hl.typeIs PySem.F.sub_tuple_set PySem.F.sub_tuple_frozenset rfl fun A' ha => wpAny_pyIter_tuple (hl.push _) ?_
    rw [hz]
    exact run A' _ _ (Walks.tuple (by rw [Around.in1_handled, ha, hh]) _ l (Nat.ne_of_lt (Nat.lt_succ_of_lt lt)) us.toArray) ⟨⟨_, hz ▸ Heap.get?_push_size _ rfl, rfl, rfl⟩, (hl.push _).push _⟩

/-! ### sorted(set) -/
theorem strs_mk : ∀ {vs : List Value}, (∀ v ∈ vs, ∃ k u, v = Value.str k u) → StrsAre vs (vs.map strV)
  | [], _ => .nil
  | v :: vs, h => by
    obtain ⟨k, u, rfl⟩ := h v List.mem_cons_self
    exact .cons k u (strs_mk fun x hx => h x (List.mem_cons_of_mem _ hx))
/-- the list's sort, once the texts are gathered -/
theorem sort_new {vs : List Value} {l : List Str} {R : Value → Shared → Prop} (S : StrsAre vs l) (h64 : l.length < 64)
    (q : ∀ h p ys us c, (∀ b o, s.heap.get? b = some o → h.get? b = some o) → s.heap.objs.size ≤ p → h.get? p = some (seqObj "list" us c) → StrsAre us.toList ys → ys.Perm l → sortedS ys = true → R (.ref p) { s with heap := h }) :
    wpAny (model P w) A (do let x ← newList vs; let _ ← holding [x] (call (.builtin "list.sort") [x] []); ret x) (fun f s' => ∃ v, f = Fin.done (Flow.ret v) ∧ R v s') E s := by
  have n : vs.length < 64 := by rw [S.len_eq]; exact h64
  have new : (s.heap.push (seqObj "list" vs.toArray 0)).get? s.heap.objs.size = some (seqObj "list" vs.toArray 0) := Heap.get?_push_size _ rfl
  refine wpAny_bind (wpAny_newList (wpAny_bind (wpAny_holding (wpAny_call_entry slot_list_sort ⟨_, new, rfl⟩ entry_list_sort (list_sort_treeK strKind_oneLt (s := { s with heap := s.heap.push (seqObj "list" vs.toArray 0) }) new S.keysOf (fun _ _ _ e => keyKind_strs (by rw [← e]; exact S)) n fun st hp hs => ?_) (args_list_sort _)))) (Nat.le_trans (Nat.le_of_lt n) (by decide)))
  let ⟨ys, g1, g2, g3⟩ := sorted_out_str S hp hs
  let ⟨c, hc⟩ := sortedHeap_at (vs := vs) (out := (arrOf st).map (·.2)) new
  exact ⟨_, rfl, wpAny_pure ⟨_, rfl, q _ _ ys _ c (fun b u e => (sortedHeap_old (Nat.ne_of_lt (Heap.lt_size e)) (by rw [size_push']; exact Nat.lt_succ_of_lt (Heap.lt_size e))).trans (Heap.get?_push_of_some _ e)) (Nat.le_refl _) hc g1 g2 g3⟩⟩
theorem sort_set {a : Addr} {l : List Str} {Q : Value → Shared → Prop} (x : SxAt P w s.heap a l) (hh : A.handled = none) (h64 : l.length < 64)
    (q : ∀ s2 p ys us c, (∀ b o, s.heap.get? b = some o → s2.heap.get? b = some o) → s2.gens = s.gens → s2.os = s.os → s.heap.objs.size ≤ p → s2.heap.get? p = some (seqObj "list" us c) → StrsAre us.toList ys → ys.Perm l → sortedS ys = true → Q (.ref p) s2) :
    wpAny (model P w) A (call (.builtin "sorted") [.ref a]) Q E s := by
  obtain ⟨⟨es, ep, t⟩, ho, T, tp, r, ld⟩ := x
  have few : es.size < scanBound := by
    rw [show es.size = l.length from T.sz]
    exact Nat.lt_of_lt_of_le h64 (by decide)
  refine Calls.call_function_entry kind_sorted plain_sorted entry_sorted (args_sorted1 _) ?_
  unfold Builtin.«sorted»
  refine wpAny_bind (m := checkCount "sorted" 1 1 _) (wpAny_pure (wpAny_bind (collect_set (A := A.in1) hh ⟨_, ho, rfl, rfl⟩ T.fit few r ld fun s1 vs k hz g o pm => ?_)))
  have S := strs_mk fun v hv => by
    obtain ⟨e, he, rfl⟩ := List.mem_map.mp (pm.mem_iff.mp hv)
    obtain ⟨⟨k, hk, _⟩, _⟩ := T.el e he
    exact ⟨k, Value.isStrOf_shape hk⟩
  refine sort_new S (by rw [List.length_map, pm.length_eq, List.length_map, Array.length_toList, show es.size = l.length from T.sz]; exact h64) fun h p ys us c k2 hp hc g1 g2 g3 => q _ p ys us c (fun b u e => k2 b u (k b u e)) g o (Nat.le_trans hz hp) hc g1 (g2.trans ((pm.map strV).trans (by rw [List.map_map]; exact tp))) g3
end

/-! ### sorted(set(e)), by values and by data -/
def tSSet (K : PySem.W.Frag) (te : TE) : TE := fun σ H Q => te σ H fun x H1 => ∃ (l : Addr) (xs : List Str), x = .ref l ∧ (SqL K H1 l (xs.map V.str) ∨ SqT K H1 l (xs.map V.str)) ∧ xs.length ≤ 1000 ∧ (onceS xs).length < 64 ∧
  ∀ p, H1 p = none → Q (.ref p) (upd H1 p (.lst ((srt (onceS xs)).map V.str)))
section
variable {X : Cx} {e : Expr} {te : TE} {p p2 q pos : Pos}
theorem pe_sset (hc : X.calm = true) (hg : Gl X "sorted") (hm : X.mg "sorted" = none) (hg2 : Gl X "set") (hm2 : X.mg "set" = none) (ha : PE X e te)
    (na : starEach [e] X.env = (false, eval e X.env) :: starEach [] X.env := by rfl) : PE X (.Call (.Name "sorted" p) [.Call (.Name "set" p2) [e] [] q] [] pos) (tSSet X.K te) := by
  refine ⟨fun pins s σ H Q I h => Call_ (ld_blt I hg hm boot_sorted (callWith_builtin1 (args_cons (Call_ (ld_blt I hg2 hm2 boot_set (callWith_type1 (args_cons (thn (ha.run pins s σ H _ I h) fun v s1 ⟨x, H1, I1, r1, y⟩ => args_nil ?_) na) na rfl))) rfl) rfl rfl))⟩
  obtain ⟨l, xs, rfl, hq, h1, h64, fin⟩ := y
  cases r1
  have hh := I1.ok.hd hc
  obtain ⟨us, r, hl⟩ : ∃ us, Vals (xs.map V.str) us ∧ (s1.heap.IsList l us.toArray ∨ s1.heap.IsTuple l us.toArray) := by
    rcases hq with hq | hq
    · obtain ⟨us, r, pl, _⟩ := I1.list hq
      exact ⟨us, r, .inl pl.isList⟩
    · obtain ⟨us, r, pl, _⟩ := I1.tuple hq
      exact ⟨us, r, .inr pl⟩
  refine set_txt hh hl r (Nat.lt_of_le_of_lt (Nat.succ_le_succ h1) (by decide)) fun h' tk k x => args_nil (sort_set (s := { s1 with heap := h', toks := tk }) x hh h64 fun s2 a ys us c k2 g o ha2 hc2 hs pm so => ?_)
  have I2 : Inv X pins σ H1 { s1 with heap := h', toks := tk } := I1.kept k
  have free : H1 a = none := I2.hok.fresh ha2
  have ey : ys = srt (onceS xs) := asc_unique (pm.trans (srt_perm _).symm) (asc_sorted so) (srt_asc _)
  subst ey
  have hlen : ((srt (onceS xs)).map V.str).length ≤ sizeLine := by
    rw [List.length_map, srt_len]
    exact Nat.le_trans (Nat.le_of_lt h64) (by decide)
  have J : Inv X pins σ (upd H1 a (.lst ((srt (onceS xs)).map V.str))) { s1 with heap := s2.heap, gens := s2.gens, drawn := s2.drawn, toks := s2.toks } :=
    Inv.call (s := { s1 with heap := h', toks := tk }) I2 (ch := []) (Un.laid k2 ha2 free) (I2.hok.laid k2 ha2 ⟨hlen, us.toList, c, vals_of_strs hs, hc2⟩) (by rw [g]; exact I2.bare) (fun _ z => nomatch z)
  obtain ⟨h2, g2, d2, t2, o2⟩ := s2
  have o' : o2 = s1.os := o
  subst o'
  exact ⟨.ref a, _, J, rfl, fin a free⟩
end
section
variable {K : PySem.W.Frag} {ro : Ro} {ka k1 : Cells} {te : TE} {w : W}
theorem evn_sset {b t : Bool} {ss : List Str} (h : EvD K te ro ka w k1) (l : Lk k1 w t (stD ss) b) (hz : ss.length ≤ 1000) (h64 : (onceS ss).length < 64) : EvN K (tSSet K te) ro ka (.lst (stD (srt (onceS ss)))) k1 := fun B F0 ta sg H Q e q =>
  h B F0 ta sg H _ e fun v H1 e1 => by
    obtain ⟨F, g, ef⟩ := id e1
    obtain ⟨a, xs, rfl, s1, r1⟩ := l.at ef (ef.tm _ List.mem_cons_self)
    have ex := rpl_strs r1
    subst ex
    refine ⟨a, ss, rfl, s1, hz, h64, fun p hp => q p _ ?_⟩
    exact ⟨F, g, (ef.cell (o := .lst ((srt (onceS ss)).map V.str)) hp (n := .lst (stD (srt (onceS ss)))) ⟨_, upd_same, rpl_mk _⟩).held fun p hp => List.mem_cons_of_mem _ hp⟩
/-- what the texts have in common with a list of different ones -/
theorem srt_once {xs l : List Str} (nd : l.Nodup) (h : ∀ x, x ∈ l ↔ x ∈ xs) : srt (onceS xs) = srt l :=
  have up : ∀ x, x ∈ onceS xs ↔ x ∈ xs := fun x => mem_onceS.trans (by simp)
  srt_eq ((List.perm_ext_iff_of_nodup (onceS_nd xs List.nodup_nil) nd).mpr fun x => (up x).trans (h x).symm)
end
end DL

/-! GN: text * number, text in text (own work). -/
namespace DL
open PySem L2 PySem.W PyProof.Rows

/-- n times a text -/
def repS (n : Nat) (s : Str) : Str := ⟨(List.replicate n s.cps.toList).flatten.toArray⟩
theorem flat_cps : ∀ (n : Nat) (x acc : Array Nat), (List.replicate n x).foldl (· ++ ·) acc = acc ++ (List.replicate n x.toList).flatten.toArray
  | 0, x, acc => by simp
  | n + 1, x, acc => by
    rw [List.replicate_succ, List.foldl_cons, flat_cps n x, List.replicate_succ, List.flatten_cons]
    apply Array.toList_inj.mp
    simp
theorem repS_eq (s : Str) (n : Nat) (h : 1 ≤ n) : Txt.mul s n = repS n s := by
  unfold Txt.mul
  rw [if_neg (by omega)]
  by_cases c : ((n : Int) == 1 || s.length == 0) = true
  · rw [if_pos c]
    apply str_ext
    unfold repS
    rw [Bool.or_eq_true, beq_iff_eq, beq_iff_eq] at c
    rcases c with c | c
    · rw [show n = 1 by omega]
      simp
    · have e : s.cps.toList = [] := List.eq_nil_of_length_eq_zero (by rw [Array.length_toList]; exact c)
      rw [e]
      simp
  · rw [if_neg c]
    apply str_ext
    show ((List.replicate (n : Int).toNat s.cps).foldl (· ++ ·) #[]).toList = _
    rw [flat_cps, Int.toNat_natCast]
    simp [repS]
theorem repS_len (n : Nat) (s : Str) : (repS n s).length = n * s.length := by
  show ((List.replicate n s.cps.toList).flatten.toArray).size = _
  rw [List.size_toArray, List.length_flatten, List.map_replicate, List.sum_replicate_nat, Array.length_toList]
  rfl
abbrev rMulT : R2 := fun x y H Q => ∃ (s : Str) (n : Nat), x = .str s ∧ y = .int n ∧ 1 ≤ n ∧ n ≤ 4000 ∧ s.length ≤ 4000 ∧ Q (.str (repS n s)) H
theorem op_mulS {X : Cx} : OpR X (binaryOp .Mult) rMulT := fun pins st sg H x y v u Q I rx ry h => by
  obtain ⟨s, n, rfl, rfl, h1, h2, h3, q⟩ := h
  obtain ⟨t, rfl⟩ := rx
  obtain ⟨t', rfl⟩ := ry
  refine SB.mul (mulOk_of 4000 4000 h3 (by omega) (by omega) (by decide) (by decide)) fun t2 k => ⟨.str (repS n s), H, I.tok _, ⟨t2, by rw [repS_eq s n h1]⟩, q⟩

/-! ### a text in a text -/
def inS (a b : Str) : Bool := !(Builtin.Str.occurrences b a 0 b.length 1).isEmpty
theorem inS_iff (a b : Str) : inS a b = true ↔ ∃ u v, b.cps.toList = u ++ a.cps.toList ++ v := by
  unfold inS
  rw [StrLaws.found_iff]
  constructor
  · rintro ⟨i, h1, h2⟩
    have e : b.cps.extract i (i + a.length) = a.cps := eq_of_beq h2
    refine ⟨b.cps.toList.take i, b.cps.toList.drop (i + a.length), ?_⟩
    rw [← e, Array.toList_extract, List.extract_eq_take_drop, Nat.add_sub_cancel_left, ← List.drop_drop, List.append_assoc, List.take_append_drop, List.take_append_drop]
  · rintro ⟨u, v, e⟩
    have la : a.cps.toList.length = a.length := Array.length_toList ..
    refine ⟨u.length, ?_, beq_iff_eq.mpr (Array.toList_inj.mp ?_)⟩
    · have := congrArg List.length e
      rw [Array.length_toList, List.length_append, List.length_append, la] at this
      show u.length + a.length ≤ b.cps.size
      omega
    · rw [Array.toList_extract, e, List.extract_eq_take_drop, Nat.add_sub_cancel_left, List.append_assoc, List.drop_left, ← la, List.take_left]
abbrev rInX : R2 := fun x y H Q => ∃ a b : Str, x = .str a ∧ y = .str b ∧ Q (.bl (inS a b)) H
theorem op_inX {X : Cx} : OpR X (compareOp .In) rInX := fun pins st sg H x y v u Q I rx ry h => by
  obtain ⟨a, b, rfl, rfl, q⟩ := h
  obtain ⟨t, rfl⟩ := rx
  obtain ⟨t', rfl⟩ := ry
  exact in_str (fin_bl I q rfl)
section
variable {K : PySem.W.Frag} {ro : Ro} {ka k1 k2 : Cells} {te tf : TE}
theorem ev_mulS {s : Str} {n : Nat} (h : EvD K te ro ka (.val (.str s)) k1) (h2 : EvD K tf ro k1 (.val (.int n)) k2) (h1 : 1 ≤ n) (hn : n ≤ 4000) (hs : s.length ≤ 4000) : EvD K (tOp rMulT te tf) ro ka (.val (.str (repS n s))) k2 := ev_op h h2 fun B F0 ro ta sg H u v Q e hu hv q =>
  ⟨s, n, e.tm_str hu, e.tm_int hv, h1, hn, hs, q _ _ (e.push_imm fun _ => rfl)⟩
theorem ev_inX {a b : Str} (h : EvD K te ro ka (.val (.str a)) k1) (h2 : EvD K tf ro k1 (.val (.str b)) k2) : EvD K (tOp rInX te tf) ro ka (.val (.bl (inS a b))) k2 := ev_op h h2 fun B F0 ro ta sg H u v Q e hu hv q =>
  ⟨a, b, e.tm_str hu, e.tm_str hv, q _ _ (e.push_imm fun _ => rfl)⟩
variable {E E' : XK} {C C1 : Addr} {gs : List (Str × D)} {w : W} {tr : TA} {sp : Sp}
theorem evx_sset (h : EvX K te ro ka E C1 gs k2) : EvX K (tSSet K te) ro ka E C1 gs k2 := fun B F0 ta sg H Q e q => h B F0 ta sg H _ e q
end
end DL

/-! GO: ring texts and their windows (own work). -/
namespace DL
open PySem L2 PySem.W PyProof.Rows
/-! ### ring texts and their windows -/
/-- L begins the endless text -/
def EnP (cs L : List Nat) : Prop := ∀ j, j < L.length → L[j]? = some (cs.getD (j % cs.length) 0)
def winL (cs : List Nat) (k i : Nat) : List Nat := (List.range k).map fun j => cs.getD ((i + j) % cs.length) 0
def winS (s : Str) (k i : Nat) : Str := ⟨(winL s.cps.toList k i).toArray⟩
def wins (s : Str) (k : Nat) : List Str := (List.range s.length).map (winS s k)
theorem winL_len (cs : List Nat) (k i : Nat) : (winL cs k i).length = k := by
  unfold winL
  rw [List.length_map, List.length_range]
theorem winL_at {cs : List Nat} {k i j : Nat} (h : j < k) : (winL cs k i)[j]? = some (cs.getD ((i + j) % cs.length) 0) := by
  unfold winL
  rw [List.getElem?_map, List.getElem?_range h]
  rfl
theorem winS_len (s : Str) (k i : Nat) : (winS s k i).length = k := by
  rw [str_len]
  exact winL_len _ _ _
theorem wins_len (s : Str) (k : Nat) : (wins s k).length = s.length := by
  unfold wins
  rw [List.length_map, List.length_range]
theorem enp_cut {cs L : List Nat} {i k : Nat} (h : EnP cs L) (hl : i + k ≤ L.length) : (L.drop i).take k = winL cs k i := by
  apply List.ext_getElem?
  intro j
  by_cases hj : j < k
  · rw [List.getElem?_take_of_lt hj, List.getElem?_drop, h _ (by omega), winL_at hj]
  · rw [List.getElem?_eq_none (by rw [List.length_take, List.length_drop]; omega), List.getElem?_eq_none (by rw [winL_len]; omega)]
theorem enp_self (cs : List Nat) : EnP cs cs := fun j hj => by
  rw [Nat.mod_eq_of_lt hj, List.getD_eq_getElem?_getD, List.getElem?_eq_getElem hj]
  rfl
theorem enp_app {cs L : List Nat} (h : EnP cs L) (hm : L.length % cs.length = 0) : EnP cs (L ++ cs) := fun j hj => by
  by_cases c : j < L.length
  · rw [List.getElem?_append_left c]
    exact h j c
  · rw [List.length_append] at hj
    rw [List.getElem?_append_right (by omega), enp_self cs (j - L.length) (by omega)]
    have e : j = L.length + (j - L.length) := by omega
    have e2 : j % cs.length = (j - L.length) % cs.length := by
      conv => lhs; rw [e, Nat.add_mod, hm, Nat.zero_add, Nat.mod_mod]
    rw [e2]
theorem enp_rep (cs : List Nat) : ∀ n, EnP cs (List.replicate n cs).flatten ∧ (List.replicate n cs).flatten.length % cs.length = 0
  | 0 => ⟨fun j hj => by simp at hj, by simp⟩
  | n + 1 => by
    have ⟨h, hm⟩ := enp_rep cs n
    have e : (List.replicate (n + 1) cs).flatten = (List.replicate n cs).flatten ++ cs := by rw [List.replicate_succ', List.flatten_append, List.flatten_singleton]
    rw [e]
    refine ⟨enp_app h hm, ?_⟩
    rw [List.length_append, Nat.add_mod, hm, Nat.zero_add, Nat.mod_mod, Nat.mod_self]
theorem cut_win {s long : Str} {i k : Nat} (h : EnP s.cps.toList long.cps.toList) (hl : i + k ≤ long.length) : cutS long (some (i : Int)) (some ((i : Int) + (k : Int))) = winS s k i := by
  apply str_ext
  have e1 : HT.sIx long.length 0 (some (i : Int)) = i := six_nat (by omega) (by omega) 0
  have e2 : HT.sIx long.length long.length (some ((i : Int) + (k : Int))) = i + k := (six_nat (by omega) (by omega) _).trans (by omega)
  unfold cutS winS
  rw [e1, e2, ← enp_cut h (by rw [← str_len]; exact hl), Nat.add_sub_cancel_left]
/-- 1 to m letters -/
def isTx (m : Nat) (s : Str) : Bool := decide (1 ≤ s.length ∧ s.length ≤ m) && s.cps.toList.all fun c => decide (c ∈ letL)
def isTxD (m : Nat) : D → Bool
  | .str s => isTx m s
  | _ => false
theorem isTx_iff {m : Nat} {s : Str} : isTx m s = true ↔ (1 ≤ s.length ∧ s.length ≤ m) ∧ ∀ c ∈ s.cps.toList, c ∈ letL := by
  unfold isTx
  rw [Bool.and_eq_true, decide_eq_true_eq, List.all_eq_true]
  simp
theorem tx_nm {m : Nat} {s : Str} (h : isTx m s = true) (h8 : s.length ≤ 8) : isNm s = true := by
  have ⟨⟨h1, _⟩, h2⟩ := isTx_iff.mp h
  unfold isNm
  rw [str_len] at h1 h8
  cases hc : s.cps.toList with
  | nil => rw [hc] at h1; simp at h1
  | cons c r =>
    rw [hc] at h2 h8
    show (decide ((c :: r).length ≤ 8) && (decide (c ∈ letL) && (c :: r).all fun x => decide (x ∈ letL) || decide (x ∈ digL))) = true
    rw [decide_eq_true h8, decide_eq_true (h2 c List.mem_cons_self), Bool.true_and, Bool.true_and, List.all_eq_true]
    intro x hx
    rw [decide_eq_true (h2 x hx)]
    rfl
theorem mem_win {s : Str} {k i c : Nat} (hs : 1 ≤ s.length) (h : c ∈ (winS s k i).cps.toList) : c ∈ s.cps.toList := by
  have h : c ∈ winL s.cps.toList k i := h
  obtain ⟨j, _, rfl⟩ := List.mem_map.mp h
  have : (i + j) % s.cps.toList.length < s.cps.toList.length := Nat.mod_lt _ (by rw [← str_len]; exact hs)
  rw [List.getD_eq_getElem?_getD, List.getElem?_eq_getElem this]
  exact List.getElem_mem _
theorem win_tx {m n : Nat} {s : Str} {k i : Nat} (h : isTx m s = true) (h1 : 1 ≤ k) (h2 : k ≤ n) : isTx n (winS s k i) = true := by
  have ⟨⟨a, _⟩, b⟩ := isTx_iff.mp h
  refine isTx_iff.mpr ⟨?_, fun c hc => b c (mem_win a hc)⟩
  rw [winS_len]
  exact ⟨h1, h2⟩
theorem mem_wins {s : Str} {k : Nat} {x : Str} : x ∈ wins s k ↔ ∃ i, i < s.length ∧ winS s k i = x := by
  unfold wins
  rw [List.mem_map]
  constructor
  · rintro ⟨i, h, e⟩
    exact ⟨i, List.mem_range.mp h, e⟩
  · rintro ⟨i, h, e⟩
    exact ⟨i, List.mem_range.mpr h, e⟩
theorem winS_mod (s : Str) (k i : Nat) : winS s k (i % s.length) = winS s k i := by
  unfold winS winL
  congr 2
  apply List.map_congr_left
  intro j _
  rw [← str_len, Nat.mod_add_mod]
theorem win_mem {s : Str} (hs : 1 ≤ s.length) (k i : Nat) : winS s k i ∈ wins s k := mem_wins.mpr ⟨i % s.length, Nat.mod_lt _ hs, winS_mod s k i⟩
/-! ### its first letters, its last letters -/
abbrev iniS (s : Str) : Str := cutS s none (some (-1))
abbrev taiS (s : Str) : Str := cutS s (some 1) none
theorem iniS_cps (s : Str) : (iniS s).cps.toList = s.cps.toList.dropLast := by
  show ((s.cps.toList.drop (HT.sIx s.length 0 none)).take (HT.sIx s.length s.length (some (-1)) - HT.sIx s.length 0 none)) = _
  have e1 : HT.sIx s.length 0 none = 0 := rfl
  have e2 : HT.sIx s.length s.length (some (-1)) = s.length - 1 := by
    show (if (-1 : Int) < 0 then ((-1 : Int) + (s.length : Int)).toNat else min (-1 : Int).toNat s.length) = _
    rw [if_pos (by decide)]
    omega
  rw [e1, e2, List.drop_zero, Nat.sub_zero, List.dropLast_eq_take, str_len]
theorem taiS_cps (s : Str) : (taiS s).cps.toList = s.cps.toList.drop 1 := by
  show ((s.cps.toList.drop (HT.sIx s.length 0 (some 1))).take (HT.sIx s.length s.length none - HT.sIx s.length 0 (some 1))) = _
  have e1 : HT.sIx s.length 0 (some 1) = min 1 s.length := HT.sIx_nat s.length 0 1
  have e2 : HT.sIx s.length s.length none = s.length := rfl
  rw [e1, e2]
  by_cases h : s.length = 0
  · have : s.cps.toList = [] := List.eq_nil_of_length_eq_zero (by rw [← str_len]; exact h)
    rw [this]
    simp
  · rw [show min 1 s.length = 1 by omega]
    exact List.take_of_length_le (by rw [List.length_drop, ← str_len]; omega)
theorem winL_ini (cs : List Nat) (k i : Nat) : (winL cs (k + 1) i).dropLast = winL cs k i := by
  unfold winL
  rw [List.range_succ, List.map_append, List.map_singleton, List.dropLast_concat]
theorem winL_tai (cs : List Nat) (k i : Nat) : (winL cs (k + 1) i).drop 1 = winL cs k (i + 1) := by
  apply List.ext_getElem?
  intro j
  rw [List.getElem?_drop]
  by_cases h : j < k
  · rw [winL_at h, winL_at (by omega), show i + (1 + j) = i + 1 + j by omega]
  · rw [List.getElem?_eq_none (by rw [winL_len]; omega), List.getElem?_eq_none (by rw [winL_len]; omega)]
theorem ini_win (s : Str) (k i : Nat) : iniS (winS s (k + 1) i) = winS s k i := str_ext ((iniS_cps _).trans (winL_ini _ _ _))
theorem tai_win (s : Str) (k i : Nat) : taiS (winS s (k + 1) i) = winS s k (i + 1) := str_ext ((taiS_cps _).trans (winL_tai _ _ _))
theorem iniS_len (s : Str) : (iniS s).length = s.length - 1 := by rw [str_len, iniS_cps, List.length_dropLast, ← str_len]
theorem taiS_len (s : Str) : (taiS s).length = s.length - 1 := by rw [str_len, taiS_cps, List.length_drop, ← str_len]
/-! ### the same text begun elsewhere -/
abbrev rotS (s : Str) (p : Int) : Str := cutS s (some p) none ++ cutS s none (some p)
theorem cpsApp (a b : Str) : (a ++ b).cps.toList = a.cps.toList ++ b.cps.toList := by
  show (a.cps ++ b.cps).toList = _
  simp
theorem rotS_cps {s : Str} {p : Nat} (h : p ≤ s.length) : (rotS s p).cps.toList = s.cps.toList.drop p ++ s.cps.toList.take p := by
  rw [cpsApp]
  congr 1
  · show ((s.cps.toList.drop (HT.sIx s.length 0 (some (p : Int)))).take (HT.sIx s.length s.length none - HT.sIx s.length 0 (some (p : Int)))) = _
    rw [HT.sIx_nat, Nat.min_eq_left h, show HT.sIx s.length s.length none = s.length from rfl]
    exact List.take_of_length_le (by rw [List.length_drop, ← str_len]; omega)
  · show ((s.cps.toList.drop (HT.sIx s.length 0 none)).take (HT.sIx s.length s.length (some (p : Int)) - HT.sIx s.length 0 none)) = _
    rw [HT.sIx_nat, Nat.min_eq_left h, show HT.sIx s.length 0 none = 0 from rfl]
    rfl
theorem rotS_len {s : Str} {p : Nat} (h : p ≤ s.length) : (rotS s p).length = s.length := by
  rw [str_len, rotS_cps h, List.length_append, List.length_drop, List.length_take, ← str_len]
  omega
theorem rot_get {cs : List Nat} {p : Nat} (h : p ≤ cs.length) (h0 : cs ≠ []) (j : Nat) : (cs.drop p ++ cs.take p).getD (j % cs.length) 0 = cs.getD ((j + p) % cs.length) 0 := by
  have n0 : 0 < cs.length := List.length_pos_iff.mpr h0
  have hl : j % cs.length < cs.length := Nat.mod_lt _ n0
  rw [List.getD_eq_getElem?_getD, List.getD_eq_getElem?_getD]
  congr 1
  rw [show (j + p) % cs.length = (j % cs.length + p) % cs.length by rw [Nat.mod_add_mod]]
  generalize j % cs.length = q at hl
  by_cases c : q < cs.length - p
  · rw [List.getElem?_append_left (by rw [List.length_drop]; exact c), List.getElem?_drop, Nat.mod_eq_of_lt (show q + p < cs.length by omega), Nat.add_comm p]
  · rw [List.getElem?_append_right (by rw [List.length_drop]; omega), List.length_drop, List.getElem?_take_of_lt (by omega), Nat.mod_eq_sub_mod (show cs.length ≤ q + p by omega), Nat.mod_eq_of_lt (show q + p - cs.length < cs.length by omega)]
    congr 1
    omega
theorem rot_win {s : Str} {p : Nat} (h : p ≤ s.length) (h0 : 1 ≤ s.length) (k i : Nat) : winS (rotS s p) k i = winS s k (i + p) := by
  apply str_ext
  show winL _ _ _ = winL _ _ _
  unfold winL
  apply List.map_congr_left
  intro j _
  rw [← str_len, rotS_len h, rotS_cps h, str_len, rot_get (by rw [← str_len]; exact h) (by intro z; rw [str_len, z] at h0; simp at h0), show i + j + p = i + p + j by omega]
theorem wins_rot {s : Str} {p : Nat} (h : p ≤ s.length) (h0 : 1 ≤ s.length) (k : Nat) (x : Str) : x ∈ wins (rotS s p) k ↔ x ∈ wins s k := by
  rw [mem_wins, mem_wins, rotS_len h]
  constructor
  · rintro ⟨i, hi, rfl⟩
    rw [rot_win h h0]
    exact mem_wins.mp (win_mem h0 _ _)
  · rintro ⟨i, hi, rfl⟩
    have : winS s k i = winS (rotS s p) k (i + (s.length - p)) := by
      rw [rot_win h h0, show i + (s.length - p) + p = i + s.length by omega, ← winS_mod s k (i + s.length), Nat.add_mod_right, winS_mod]
    rw [this]
    have := win_mem (s := rotS s p) (by rw [rotS_len h]; exact h0) k (i + (s.length - p))
    rw [mem_wins, rotS_len h] at this
    exact this
/-! ### sorted sets -/
theorem inOrd_eq {xs ys : List Str} (h : ∀ x, x ∈ xs ↔ x ∈ ys) : inOrd xs = inOrd ys :=
  srt_eq ((List.perm_ext_iff_of_nodup (dedS_nd xs) (dedS_nd ys)).mpr fun x => mem_dedS.trans ((h x).trans mem_dedS.symm))
theorem once_inOrd (xs : List Str) : srt (onceS xs) = inOrd xs := srt_once (dedS_nd xs) fun x => mem_dedS
theorem mem_inOrd {xs : List Str} {x : Str} : x ∈ inOrd xs ↔ x ∈ xs := mem_srt.trans mem_dedS
theorem inOrd_nd (xs : List Str) : (inOrd xs).Nodup := (srt_perm _).nodup_iff.mpr (dedS_nd xs)
theorem inOrd_len (xs : List Str) : (inOrd xs).length ≤ xs.length := by
  unfold inOrd
  rw [srt_len]
  exact dedS_len xs
theorem once_len (xs : List Str) : (onceS xs).length = (inOrd xs).length := by rw [← once_inOrd, srt_len]
theorem inOrd_self {xs : List Str} (nd : xs.Nodup) (h : AscS xs) : inOrd xs = xs := asc_unique ((srt_perm _).trans ((List.perm_ext_iff_of_nodup (dedS_nd xs) nd).mpr fun x => mem_dedS)) (srt_asc _) h
theorem inOrd_twice (xs : List Str) : inOrd (inOrd xs) = inOrd xs := inOrd_self (inOrd_nd xs) (srt_asc _)
end DL

/-! GP: returns within try whose clause reads slots; join of what a word tells (own work). -/
namespace DL
open PySem L2 PySem.W PyProof.Rows
section
variable {K : PySem.W.Frag} {B F0 : Hp} {ro : Ro} {ka k1 k2 k3 kr : Cells} {ta : List (V × W)} {sg : L2.St} {H : Hp} {te tf tg to : TE} {tr : TA} {De De' : Ends} {w x y : W}
/-- return f(..) op x within try, the slots known in its clause -/
theorem g_retOS {c : Value} {i : Nat} {ts : Addr → Value → Option Addr → TS} {Wout : WX} {C1 : Addr} {gs : List (Str × D)} {r : R2} {tf : L2.St → TE} {tg : TE} (h : ∀ sg, EvX K (tf sg) ro ka (WE (wAs K c i ts Wout De) sg) C1 gs k2) (hx : exmOne K (.ref C1) c = some true)
    (hs : ∀ a dx, Gp K B F0 ta (ts a (.ref C1) (some dx) { nx := fun σ' H' => De.nx (σ'.set i none) H', rt := De.rt, bk := fun σ' H' => De.bk (σ'.set i none) H', ct := fun σ' H' => De.ct (σ'.set i none) H' }) (ro.set i (some (.val (.adr a)))) (k2 ++ [(dx, .xd gs)])) : Gp K B F0 ta (tRet (tOp r (tAtS tf) tg) De') ro ka := fun sg H e =>
  (evx_opL (h sg)) B F0 ta sg H _ e fun dx H' e' => ⟨true, hx, fun _ a _ => hs a dx _ _ (e'.setA i a), fun z => by cases z⟩
/-- a.join(xs), xs told by a word -/
theorem evr_joinR {a : Str} {P : W → Cells → Prop} (h : EvD K to ro ka (.val (.str a)) k1) (h2 : EvR K te ro k1 P) (hP : ∀ w k, P w k → ∃ ss, w = .val (.lst (stD ss)) ∧ (ss.map (·.length)).sum + ss.length * a.length ≤ 100000) :
    EvR K (tM1 (rJoin K) to te) ro ka (fun w' k => ∃ ss, P (.val (.lst (stD ss))) k ∧ w' = .val (.str (Txt.join a ss))) := fun B F0 ta sg H Q e q =>
  h B F0 ta sg H _ e fun v H1 e1 => by
    have hv := e1.tm_str (v := v) (i := a) List.mem_cons_self
    subst hv
    refine ⟨⟨a, rfl⟩, h2 B F0 _ sg H1 _ e1 fun w k u H2 pw e2 => ?_⟩
    obtain ⟨ss, rfl, hz⟩ := hP w k pw
    obtain ⟨F, g, ef⟩ := id e2
    obtain ⟨p, xs, rfl, s1, r1⟩ := Lk.vl.get ef (ef.tm _ List.mem_cons_self)
    have e := rpl_txt r1
    subst e
    exact ⟨a, p, ss, rfl, rfl, .inl (.inl s1), by omega, q _ _ _ _ ⟨ss, pw, rfl⟩ ((e2.held fun z hz => List.mem_cons_of_mem _ (List.mem_cons_of_mem _ hz)).push_imm fun _ => rfl)⟩
end
end DL

namespace K61
open PySem L2 DL PySem.W
structure Tx (K : PySem.W.Frag) (mg : Str → Option Value) : Prop where
  v_LETTERS : ∃ u, mg "LETTERS" = some u ∧ RelV (.str "abcdefghijklmnopqrstuvwxyz") u
  n_len : mg "len" = none
  v_LONGEST : ∃ u, mg "LONGEST" = some u ∧ RelV (.int 8) u
  n_isinstance : mg "isinstance" = none
  n_str : mg "str" = none
  n_all : mg "all" = none
  v_DIGITS : ∃ u, mg "DIGITS" = some u ∧ RelV (.str "0123456789") u
  n_bool : mg "bool" = none
  n_int : mg "int" = none
  n_list : mg "list" = none
  t0_Net___init : IsT0 K (He.dflAt ("Net", some "__init__") 0 K)
  n_tuple : mg "tuple" = none
  g_is_name : mg "is_name" = some (.ref (He.ga K "is_name")) ∧ keepIn K (.ref (He.ga K "is_name")) = true
  g_BadName : mg "BadName" = some (.ref (He.ga K "BadName")) ∧ keepIn K (.ref (He.ga K "BadName")) = true
  g_NameTaken : mg "NameTaken" = some (.ref (He.ga K "NameTaken")) ∧ keepIn K (.ref (He.ga K "NameTaken")) = true
  g_NoPost : mg "NoPost" = some (.ref (He.ga K "NoPost")) ∧ keepIn K (.ref (He.ga K "NoPost")) = true
  n_range : mg "range" = none
  g_is_text : mg "is_text" = some (.ref (He.ga K "is_text")) ∧ keepIn K (.ref (He.ga K "is_text")) = true
  g_BadWord : mg "BadWord" = some (.ref (He.ga K "BadWord")) ∧ keepIn K (.ref (He.ga K "BadWord")) = true
  g_is_whole : mg "is_whole" = some (.ref (He.ga K "is_whole")) ∧ keepIn K (.ref (He.ga K "is_whole")) = true
  g_BadNumber : mg "BadNumber" = some (.ref (He.ga K "BadNumber")) ∧ keepIn K (.ref (He.ga K "BadNumber")) = true
  g_windows_in_turn : mg "windows_in_turn" = some (.ref (He.ga K "windows_in_turn")) ∧ keepIn K (.ref (He.ga K "windows_in_turn")) = true
  n_sorted : mg "sorted" = none
  n_set : mg "set" = none
  g_checked_windows : mg "checked_windows" = some (.ref (He.ga K "checked_windows")) ∧ keepIn K (.ref (He.ga K "checked_windows")) = true
  x0_EmptyWalk : excIn K (He.ga K "EmptyWalk") He.veBase "ValueError.__new__" = true ∧ keepIn K (.ref (He.ga K "EmptyWalk")) = true ∧ subIn K (.ref (He.ga K "EmptyWalk")) (.type "BaseException") = some true ∧ typeIn K (.ref (He.ga K "EmptyWalk")) = some (.type "type")
  g_EmptyWalk : mg "EmptyWalk" = some (.ref (He.ga K "EmptyWalk")) ∧ keepIn K (.ref (He.ga K "EmptyWalk")) = true
  mk_Net : Mk K (He.ga K "Net") (He.ma K (He.ga K "Net") "__init__")
  g_Net : mg "Net" = some (.ref (He.ga K "Net")) ∧ keepIn K (.ref (He.ga K "Net")) = true
  cl_Net : Cls K (He.ga K "Net")
  me_Net_post : Meth K (He.ga K "Net") "post" (He.ma K (He.ga K "Net") "post")
  me_Net_lane : Meth K (He.ga K "Net") "lane" (He.ma K (He.ga K "Net") "lane")
  g_window_net : mg "window_net" = some (.ref (He.ga K "window_net")) ∧ keepIn K (.ref (He.ga K "window_net")) = true
  g_windows : mg "windows" = some (.ref (He.ga K "windows")) ∧ keepIn K (.ref (He.ga K "windows")) = true
  pr_Net_posts : PropOf K (He.ga K "Net") "posts" (He.ma K (He.ga K "Net") "posts") (pga K (He.ga K "Net") "posts")
  pr_Net_lanes : PropOf K (He.ga K "Net") "lanes" (He.ma K (He.ga K "Net") "lanes") (pga K (He.ga K "Net") "lanes")
  g_law_take : mg "_law_take" = some (.ref (He.ga K "_law_take")) ∧ keepIn K (.ref (He.ga K "_law_take")) = true
  g_law_ends : mg "_law_ends" = some (.ref (He.ga K "_law_ends")) ∧ keepIn K (.ref (He.ga K "_law_ends")) = true
  g_law_mixed : mg "_law_mixed" = some (.ref (He.ga K "_law_mixed")) ∧ keepIn K (.ref (He.ga K "_law_mixed")) = true
  g_law_ways : mg "_law_ways" = some (.ref (He.ga K "_law_ways")) ∧ keepIn K (.ref (He.ga K "_law_ways")) = true
  g_law_window_net : mg "_law_window_net" = some (.ref (He.ga K "_law_window_net")) ∧ keepIn K (.ref (He.ga K "_law_window_net")) = true
  g_law_windows : mg "_law_windows" = some (.ref (He.ga K "_law_windows")) ∧ keepIn K (.ref (He.ga K "_law_windows")) = true
  g_known_by : mg "known_by" = some (.ref (He.ga K "known_by")) ∧ keepIn K (.ref (He.ga K "known_by")) = true
  xc_BadWord : Xc K (He.ga K "BadWord")
  xn_BadWord_word : findIn K (.ref (He.ga K "BadWord")) "word" = some none
  g_law_hidden : mg "_law_hidden" = some (.ref (He.ga K "_law_hidden")) ∧ keepIn K (.ref (He.ga K "_law_hidden")) = true
  g_law_pool : mg "_law_pool" = some (.ref (He.ga K "_law_pool")) ∧ keepIn K (.ref (He.ga K "_law_pool")) = true
  g_law_cell : mg "_law_cell" = some (.ref (He.ga K "_law_cell")) ∧ keepIn K (.ref (He.ga K "_law_cell")) = true
  g_law_same_ring : mg "_law_same_ring" = some (.ref (He.ga K "_law_same_ring")) ∧ keepIn K (.ref (He.ga K "_law_same_ring")) = true
  g_law_root : mg "_law_root" = some (.ref (He.ga K "_law_root")) ∧ keepIn K (.ref (He.ga K "_law_root")) = true
  g_law_text : mg "_law_text" = some (.ref (He.ga K "_law_text")) ∧ keepIn K (.ref (He.ga K "_law_text")) = true
  g_law_due : mg "_law_due" = some (.ref (He.ga K "_law_due")) ∧ keepIn K (.ref (He.ga K "_law_due")) = true
  g_law_all_alike : mg "_law_all_alike" = some (.ref (He.ga K "_law_all_alike")) ∧ keepIn K (.ref (He.ga K "_law_all_alike")) = true
  g_law_refused : mg "_law_refused" = some (.ref (He.ga K "_law_refused")) ∧ keepIn K (.ref (He.ga K "_law_refused")) = true
  xc_BadName : Xc K (He.ga K "BadName")
  xi_BadName : findIn K (.ref (He.ga K "BadName")) "__init__" = some (some (.ref (He.ma K (He.ga K "BadName") "__init__"))) ∧ typeIn K (.ref (He.ma K (He.ga K "BadName") "__init__")) = some (.type "function")
  xn_BadName_name : findIn K (.ref (He.ga K "BadName")) "name" = some none
  xc_NameTaken : Xc K (He.ga K "NameTaken")
  xi_NameTaken : findIn K (.ref (He.ga K "NameTaken")) "__init__" = some (some (.ref (He.ma K (He.ga K "NameTaken") "__init__"))) ∧ typeIn K (.ref (He.ma K (He.ga K "NameTaken") "__init__")) = some (.type "function")
  xn_NameTaken_name : findIn K (.ref (He.ga K "NameTaken")) "name" = some none
  xc_NoPost : Xc K (He.ga K "NoPost")
  xi_NoPost : findIn K (.ref (He.ga K "NoPost")) "__init__" = some (some (.ref (He.ma K (He.ga K "NoPost") "__init__"))) ∧ typeIn K (.ref (He.ma K (He.ga K "NoPost") "__init__")) = some (.type "function")
  xn_NoPost_name : findIn K (.ref (He.ga K "NoPost")) "name" = some none
  xc_BadNumber : Xc K (He.ga K "BadNumber")
  xi_BadNumber : findIn K (.ref (He.ga K "BadNumber")) "__init__" = some (some (.ref (He.ma K (He.ga K "BadNumber") "__init__"))) ∧ typeIn K (.ref (He.ma K (He.ga K "BadNumber") "__init__")) = some (.type "function")
  xn_BadNumber_value : findIn K (.ref (He.ga K "BadNumber")) "value" = some none
  xi_BadWord : findIn K (.ref (He.ga K "BadWord")) "__init__" = some (some (.ref (He.ma K (He.ga K "BadWord") "__init__"))) ∧ typeIn K (.ref (He.ma K (He.ga K "BadWord") "__init__")) = some (.type "function")
  g_law : mg "law" = some (.ref (He.ga K "law")) ∧ keepIn K (.ref (He.ga K "law")) = true
  kt_NoneType_str : kitOne K (.type "NoneType") (.type "str") = some false
  kt_bool_str : kitOne K (.type "bool") (.type "str") = some false
  kt_int_str : kitOne K (.type "int") (.type "str") = some false
  kt_list_str : kitOne K (.type "list") (.type "str") = some false
  kt_tuple_str : kitOne K (.type "tuple") (.type "str") = some false
  kt_str_str : kitOne K (.type "str") (.type "str") = some true
  kt_NoneType_int : kitOne K (.type "NoneType") (.type "int") = some false
  kt_str_int : kitOne K (.type "str") (.type "int") = some false
  kt_list_int : kitOne K (.type "list") (.type "int") = some false
  kt_tuple_int : kitOne K (.type "tuple") (.type "int") = some false
  kt_int_int : kitOne K (.type "int") (.type "int") = some true
  kt_int_bool : kitOne K (.type "int") (.type "bool") = some false
  kt_bool_int : kitOne K (.type "bool") (.type "int") = some true
  kt_bool_bool : kitOne K (.type "bool") (.type "bool") = some true
  na_Net_order : NoAttr K (He.ga K "Net") "order"
  na_Net_ends_by_lane : NoAttr K (He.ga K "Net") "ends_by_lane"
  ex_BadWord_BadWord : exmOne K (.ref (He.ga K "BadWord")) (.ref (He.ga K "BadWord")) = some true
  d_is_name : ∃ fd, FunD K "is_name" "is_name" (defArgs s_is_name) (defBody s_is_name) (defScope s_is_name) [] [] (He.ga K "is_name") fd
  d_is_whole : ∃ fd, FunD K "is_whole" "is_whole" (defArgs s_is_whole) (defBody s_is_whole) (defScope s_is_whole) [] [] (He.ga K "is_whole") fd
  d_Net___init : ∃ fd, FunD K "__init__" "Net.__init__" (defArgs s_Net___init) (defBody s_Net___init) (defScope s_Net___init) [.ref (He.dflAt ("Net", some "__init__") 0 K), .non] [] (He.ma K (He.ga K "Net") "__init__") fd
  d_Net_posts : ∃ fd, FunD K "posts" "Net.posts" (defArgs s_Net_posts) (defBody s_Net_posts) (defScope s_Net_posts) [] [] (pga K (He.ga K "Net") "posts") fd
  d_Net_lanes : ∃ fd, FunD K "lanes" "Net.lanes" (defArgs s_Net_lanes) (defBody s_Net_lanes) (defScope s_Net_lanes) [] [] (pga K (He.ga K "Net") "lanes") fd
  d_Net_post : ∃ fd, FunD K "post" "Net.post" (defArgs s_Net_post) (defBody s_Net_post) (defScope s_Net_post) [] [] (He.ma K (He.ga K "Net") "post") fd
  d_Net_lane : ∃ fd, FunD K "lane" "Net.lane" (defArgs s_Net_lane) (defBody s_Net_lane) (defScope s_Net_lane) [] [] (He.ma K (He.ga K "Net") "lane") fd
  d_is_text : ∃ fd, FunD K "is_text" "is_text" (defArgs s_is_text) (defBody s_is_text) (defScope s_is_text) [] [] (He.ga K "is_text") fd
  d_windows_in_turn : ∃ fd, FunD K "windows_in_turn" "windows_in_turn" (defArgs s_windows_in_turn) (defBody s_windows_in_turn) (defScope s_windows_in_turn) [] [] (He.ga K "windows_in_turn") fd
  d_checked_windows : ∃ fd, FunD K "checked_windows" "checked_windows" (defArgs s_checked_windows) (defBody s_checked_windows) (defScope s_checked_windows) [] [] (He.ga K "checked_windows") fd
  d_windows : ∃ fd, FunD K "windows" "windows" (defArgs s_windows) (defBody s_windows) (defScope s_windows) [] [] (He.ga K "windows") fd
  d_window_net : ∃ fd, FunD K "window_net" "window_net" (defArgs s_window_net) (defBody s_window_net) (defScope s_window_net) [] [] (He.ga K "window_net") fd
  d_known_by : ∃ fd, FunD K "known_by" "known_by" (defArgs s_known_by) (defBody s_known_by) (defScope s_known_by) [] [] (He.ga K "known_by") fd
  d_law_cell : ∃ fd, FunD K "_law_cell" "_law_cell" (defArgs s_law_cell) (defBody s_law_cell) (defScope s_law_cell) [] [] (He.ga K "_law_cell") fd
  d_law_pool : ∃ fd, FunD K "_law_pool" "_law_pool" (defArgs s_law_pool) (defBody s_law_pool) (defScope s_law_pool) [] [] (He.ga K "_law_pool") fd
  d_law_take : ∃ fd, FunD K "_law_take" "_law_take" (defArgs s_law_take) (defBody s_law_take) (defScope s_law_take) [] [] (He.ga K "_law_take") fd
  d_law_mixed : ∃ fd, FunD K "_law_mixed" "_law_mixed" (defArgs s_law_mixed) (defBody s_law_mixed) (defScope s_law_mixed) [] [] (He.ga K "_law_mixed") fd
  d_law_ends : ∃ fd, FunD K "_law_ends" "_law_ends" (defArgs s_law_ends) (defBody s_law_ends) (defScope s_law_ends) [] [] (He.ga K "_law_ends") fd
  d_law_ways : ∃ fd, FunD K "_law_ways" "_law_ways" (defArgs s_law_ways) (defBody s_law_ways) (defScope s_law_ways) [] [] (He.ga K "_law_ways") fd
  d_law_hidden : ∃ fd, FunD K "_law_hidden" "_law_hidden" (defArgs s_law_hidden) (defBody s_law_hidden) (defScope s_law_hidden) [] [] (He.ga K "_law_hidden") fd
  d_law_windows : ∃ fd, FunD K "_law_windows" "_law_windows" (defArgs s_law_windows) (defBody s_law_windows) (defScope s_law_windows) [] [] (He.ga K "_law_windows") fd
  d_law_text : ∃ fd, FunD K "_law_text" "_law_text" (defArgs s_law_text) (defBody s_law_text) (defScope s_law_text) [] [] (He.ga K "_law_text") fd
  d_law_window_net : ∃ fd, FunD K "_law_window_net" "_law_window_net" (defArgs s_law_window_net) (defBody s_law_window_net) (defScope s_law_window_net) [] [] (He.ga K "_law_window_net") fd
  d_law_root : ∃ fd, FunD K "_law_root" "_law_root" (defArgs s_law_root) (defBody s_law_root) (defScope s_law_root) [] [] (He.ga K "_law_root") fd
  d_law_same_ring : ∃ fd, FunD K "_law_same_ring" "_law_same_ring" (defArgs s_law_same_ring) (defBody s_law_same_ring) (defScope s_law_same_ring) [] [] (He.ga K "_law_same_ring") fd
  d_law_due : ∃ fd, FunD K "_law_due" "_law_due" (defArgs s_law_due) (defBody s_law_due) (defScope s_law_due) [] [] (He.ga K "_law_due") fd
  d_law_refused : ∃ fd, FunD K "_law_refused" "_law_refused" (defArgs s_law_refused) (defBody s_law_refused) (defScope s_law_refused) [] [] (He.ga K "_law_refused") fd
  d_law_all_alike : ∃ fd, FunD K "_law_all_alike" "_law_all_alike" (defArgs s_law_all_alike) (defBody s_law_all_alike) (defScope s_law_all_alike) [] [] (He.ga K "_law_all_alike") fd
  d_law : ∃ fd, FunD K "law" "law" (defArgs s_law) (defBody s_law) (defScope s_law) [] [] (He.ga K "law") fd
  d_BadName___init : ∃ fd, FunD K "__init__" "BadName.__init__" (defArgs s_BadName___init) (defBody s_BadName___init) (defScope s_BadName___init) [] [] (He.ma K (He.ga K "BadName") "__init__") fd
  d_NameTaken___init : ∃ fd, FunD K "__init__" "NameTaken.__init__" (defArgs s_NameTaken___init) (defBody s_NameTaken___init) (defScope s_NameTaken___init) [] [] (He.ma K (He.ga K "NameTaken") "__init__") fd
  d_NoPost___init : ∃ fd, FunD K "__init__" "NoPost.__init__" (defArgs s_NoPost___init) (defBody s_NoPost___init) (defScope s_NoPost___init) [] [] (He.ma K (He.ga K "NoPost") "__init__") fd
  d_BadNumber___init : ∃ fd, FunD K "__init__" "BadNumber.__init__" (defArgs s_BadNumber___init) (defBody s_BadNumber___init) (defScope s_BadNumber___init) [] [] (He.ma K (He.ga K "BadNumber") "__init__") fd
  d_BadWord___init : ∃ fd, FunD K "__init__" "BadWord.__init__" (defArgs s_BadWord___init) (defBody s_BadWord___init) (defScope s_BadWord___init) [] [] (He.ma K (He.ga K "BadWord") "__init__") fd
section
variable {P : Program} {w : World} {K : PySem.W.Frag} {mg : Str → Option Value} {base : Heap}
end
def ct_is_name (K : PySem.W.Frag) : Ct := Ct1 fun a ka out => ∃ d, a = .val d ∧ nmOk d ∧ ka = [] ∧ out = Rt (.bl (isNmD d)) []
section
variable {P : Program} {w : World} {K : PySem.W.Frag} {mg : Str → Option Value} {base : Heap}
theorem ok_is_name (T : Tx K mg) : Fn P w K mg base 4 (He.ga K "is_name") ["word"] (ct_is_name K) := by
  obtain ⟨fd, F⟩ := T.d_is_name
  refine fn_ok F sc_is_name (fun _ _ _ _ _ _ us hl => match us, hl with | [_], _ => rfl) ct1_len (fun cdv A outer s H E hr => ⟨_, (pss_cons (ps_if (PW.pt (pw_or (pt_not (pt_val (pe_callB call_isi rfl T.n_isinstance (by decide +kernel) (pa_cons (pv 0) (pa_cons (pe_bltn (v := .ty "str") rfl T.n_str (by decide +kernel) rfl) pa_nil))))) (pw_or (pt_cmpR (op_eqP (by have := (hr).units; exact this)) (pv 0) pe_str (nomark _)) (pw_or (pt_cmpR op_gt (pe_callB call_lenU rfl T.n_len (by decide +kernel) (pa_cons (pv 0) pa_nil)) (pe_gv rfl T.v_LONGEST) (nomark _)) (pw_or1 (pt_cmpR op_niU (pe_ix ix_seq (pv 0) pe_int fun _ _ => rfl) (pe_gv rfl T.v_LETTERS) (by with_unfolding_all rfl)))))))
      (pss_one (ps_ret pe_bl))
      pss_nil)
      (pss_one (ps_ret (pe_callB (cr_all rfl) rfl T.n_all (by decide +kernel) (pa_cons (pe_lc (te := (tOrV (tOp (rInU K) (tVar 1) (tC (.str "abcdefghijklmnopqrstuvwxyz"))) (tOp (rInU K) (tVar 1) (tC (.str "0123456789"))))) (tt := tYes) (own := [("sign", 1)]) rfl sc_is_name.nd (pi_seq (pv 0)) (blk_ok ["word", "sign"] (defScope s_is_name) rfl rfl (by decide +kernel)) (fun _ _ _ _ _ => (pg_name (i := 1) sc_is_name.nd rfl (by first | exact Or.inl rfl | exact Or.inr rfl))) (fun _ _ _ _ _ => pts_nil) (fun _ _ _ _ _ => (pe_or (pe_cmpR op_inU (pv 1) (pe_gv rfl T.v_LETTERS) (by with_unfolding_all rfl)) (pe_one (pe_cmpR op_inU (pv 1) (pe_gv rfl T.v_DIGITS) (by with_unfolding_all rfl)))))) pa_nil))))), fun ws ka out B F0 Q hC hR hX => ?_⟩)
  obtain ⟨a, rfl, d, rfl, hd, rfl, rfl⟩ := hC
  have other : (∃ s, d = .str s) ∨ ∃ t, tyD d = some t ∧ kitOne K (.type t) (.type "str") = some false ∧ isNmD d = false := by
    cases d with
    | non => exact .inr ⟨_, rfl, T.kt_NoneType_str, rfl⟩
    | bl b => exact .inr ⟨_, rfl, T.kt_bool_str, rfl⟩
    | int i => exact .inr ⟨_, rfl, T.kt_int_str, rfl⟩
    | lst ds => exact .inr ⟨_, rfl, T.kt_list_str, rfl⟩
    | tup ds => exact .inr ⟨_, rfl, T.kt_tuple_str, rfl⟩
    | str s => exact .inl ⟨s, rfl⟩
    | _ => exact absurd rfl hd
  rcases other with ⟨s, rfl⟩ | ⟨t, ht, hk, hn⟩
  · have hs : s.length ≤ 100000 := Nat.le_trans hd (by decide)
    cases hc : s.cps.toList with
    | nil =>
      have e := str_nil hc
      refine q_when (et_or0 ((et_not (et_B (ev_isi (ev_var rfl) .str T.kt_str_str))).to rfl) (et_or1 ((et_test (ev_eqS (ev_var rfl) ev_str)).to (by rw [e]; rfl)))) (fun _ => g_ret hR ev_bl ⟨?_, rfl⟩) (fun z => by cases z)
      show Out.ret (.bl false) = Out.ret (.bl (isNm s))
      unfold isNm
      rw [hc]
      rfl
    | cons c r =>
      have e : (s == ("" : Str)) = false := by
        refine beq_eq_false_iff_ne.mpr fun z => ?_
        rw [z] at hc
        cases hc
      have hl : s.length = (c :: r).length := by rw [str_len, hc]
      refine q_when (et_or0 ((et_not (et_B (ev_isi (ev_var rfl) .str T.kt_str_str))).to rfl) (et_or0 ((et_test (ev_eqS (ev_var rfl) ev_str)).to e) (et_or (et_test (ev_gt (ev_lenS (ev_var rfl) hs) ev_int)) (fun _ => et_test (ev_niS (ev_ixS (c := c) (ev_var rfl) ev_int hs (by rw [hc]; exact at0)) ev_str))))) (fun hb => g_ret hR ev_bl ⟨?_, rfl⟩) (fun hb => ?_)
      · show Out.ret (.bl false) = Out.ret (.bl (isNm s))
        unfold isNm nmL
        rw [hc]
        rw [Bool.or_eq_true, decide_eq_true_eq, Bool.not_eq_true', decide_eq_false_iff_not] at hb
        rcases hb with hb | hb
        · have : ¬ (c :: r).length ≤ 8 := by rw [← hl]; omega
          simp only [decide_eq_false this, Bool.false_and]
        · have : decide (c ∈ letL) = false := decide_eq_false hb
          simp only [this, Bool.false_and, Bool.and_false]
      · rw [Bool.or_eq_false_iff, decide_eq_false_iff_not, Bool.not_eq_false', decide_eq_true_eq] at hb
        refine g_ret hR (ev_cb (ea1 (evn_map (f := fun x => D.bl (decide (x ∈ letL) || decide (x ∈ digL))) (ei_str (ev_var rfl)) (by decide) (by rw [← str_len]; omega) ⟨trivial, fun _ => trivial⟩ (fun x hx => ev_orV (ev_inS (ev_var rfl) ev_str) fun _ => ev_inS (ev_var rfl) ev_str)).lst) (rc_all (b := false) (bs := s.cps.toList.map fun x => decide (x ∈ letL) || decide (x ∈ digL)) ?_)) ⟨?_, rfl⟩
        · rw [List.map_map]
          exact .vl
        · show Out.ret _ = Out.ret (.bl (isNm s))
          unfold isNm nmL
          rw [hc, List.all_map]
          have h1 : (c :: r).length ≤ 8 := by rw [← hl]; omega
          have h2 : decide (c ∈ letL) = true := decide_eq_true hb.2
          simp only [decide_eq_true h1, h2, Bool.true_and]
          rfl
  · exact q_when (et_or1 ((et_not (et_B (ev_isi (ev_var rfl) (tw_of ht) hk))).to rfl)) (fun _ => g_ret hR ev_bl ⟨by rw [hn], rfl⟩) (fun z => by cases z)
end
def ct_is_whole (K : PySem.W.Frag) : Ct := Ct1 fun a ka out => ∃ d, a = .val d ∧ tyD d ≠ none ∧ ka = [] ∧ out = Rt (.bl (isWh d)) []
section
variable {P : Program} {w : World} {K : PySem.W.Frag} {mg : Str → Option Value} {base : Heap}
theorem ok_is_whole (T : Tx K mg) : Fn P w K mg base 4 (He.ga K "is_whole") ["value"] (ct_is_whole K) := by
  obtain ⟨fd, F⟩ := T.d_is_whole
  refine fn_ok F sc_is_whole (fun _ _ _ _ _ _ us hl => match us, hl with | [_], _ => rfl) ct1_len (fun cdv A outer s H E hr => ⟨_, (pss_one (ps_ret (pe_and (pe_callB call_isi rfl T.n_isinstance (by decide +kernel) (pa_cons (pv 0) (pa_cons (pe_bltn (v := .ty "int") rfl T.n_int (by decide +kernel) rfl) pa_nil))) (pe_one (pe_not (pe_callB call_isi rfl T.n_isinstance (by decide +kernel) (pa_cons (pv 0) (pa_cons (pe_bltn (v := .ty "bool") rfl T.n_bool (by decide +kernel) rfl) pa_nil)))))))), fun ws ka out B F0 Q hC hR hX => ?_⟩)
  obtain ⟨a, rfl, d, rfl, hd, rfl, rfl⟩ := hC
  have other : (∃ i, d = .int i) ∨ (∃ b, d = .bl b) ∨ ∃ t, tyD d = some t ∧ kitOne K (.type t) (.type "int") = some false ∧ isWh d = false := by
    cases d with
    | non => exact .inr (.inr ⟨_, rfl, T.kt_NoneType_int, rfl⟩)
    | str b => exact .inr (.inr ⟨_, rfl, T.kt_str_int, rfl⟩)
    | lst ds => exact .inr (.inr ⟨_, rfl, T.kt_list_int, rfl⟩)
    | tup ds => exact .inr (.inr ⟨_, rfl, T.kt_tuple_int, rfl⟩)
    | int i => exact .inl ⟨i, rfl⟩
    | bl b => exact .inr (.inl ⟨b, rfl⟩)
    | _ => exact absurd rfl hd
  rcases other with ⟨i, rfl⟩ | ⟨b, rfl⟩ | ⟨t, ht, hk, hn⟩
  · exact g_ret hR (ev_andV1 (ev_isi (ev_var rfl) .int T.kt_int_int) (ev_notV (ev_isi (ev_var rfl) .int T.kt_int_bool))) ⟨rfl, rfl⟩
  · exact g_ret hR (ev_andV1 (ev_isi (ev_var rfl) .bl T.kt_bool_int) (ev_notV (ev_isi (ev_var rfl) .bl T.kt_bool_bool))) ⟨rfl, rfl⟩
  · exact g_ret hR (ev_andV0 (ev_isi (ev_var rfl) (tw_of ht) hk)) ⟨by rw [hn], rfl⟩
end
/-! ### nets as data -/
/-- a lane, its start, its end -/
abbrev Ln := Str × Str × Str
def lnD (r : Ln) : D := .tup [.str r.2.1, .str r.2.2]
def enD (es : List Ln) : List (Key × D) := es.map fun r => (.inr r.1, lnD r)
def lnN (es : List Ln) : List Str := es.map (·.1)
def NetD (K : PySem.W.Frag) (ps : List Str) (es : List Ln) : D := .ins (He.ga K "Net") [("order", .lst (stD ps)), ("ends_by_lane", .dic (enD es))]
def NetC (K : PySem.W.Frag) (a o d : Addr) (ps : List Str) (es : List Ln) : Cells := [(a, .ins (He.ga K "Net") [("order", .adr o), ("ends_by_lane", .adr d)]), (o, .lst (stD ps)), (d, .dic (enD es))]
theorem frz_net {K : PySem.W.Frag} {kt : Cells} {a o d : Addr} {ps : List Str} {es : List Ln} (h : ∀ p ∈ NetC K a o d ps es, p ∈ kt) : FrzD K kt a (NetD K ps es) :=
  frz_i (h _ List.mem_cons_self) ⟨_, _, rfl, .a (frz_l (h _ (List.mem_cons_of_mem _ List.mem_cons_self)) (FzL.same _)), _, _, rfl, .a (frz_d (h _ (List.mem_cons_of_mem _ (List.mem_cons_of_mem _ List.mem_cons_self)))), rfl⟩
theorem net_kd {K : PySem.W.Frag} {a o d : Addr} {ps : List Str} {es : List Ln} : ∀ p ∈ NetC K a o d ps es, ndK p.2 = true := fun p hp => by
  rcases List.mem_cons.mp hp with rfl | hp
  · rfl
  · rcases List.mem_cons.mp hp with rfl | hp
    · rfl
    · rw [List.mem_singleton.mp hp]; rfl
theorem enD_len (es : List Ln) : (enD es).length = es.length := List.length_map _
theorem lnN_len (es : List Ln) : (lnN es).length = es.length := List.length_map _
theorem enD_app (es fs : List Ln) : enD (es ++ fs) = enD es ++ enD fs := List.map_append
theorem enD_get {es : List Ln} (hn : (lnN es).Nodup) {i : Nat} {r : Ln} (h : es[i]? = some r) : getT (enD es) (.inr r.1) = some (lnD r) := by
  induction es generalizing i with
  | nil => cases h
  | cons x l ih =>
    have hn2 := List.nodup_cons.mp hn
    unfold getT enD
    rw [List.map_cons, List.find?_cons]
    cases i with
    | zero =>
      cases h
      rw [decide_eq_true rfl]
      rfl
    | succ i =>
      have hm : r.1 ∈ lnN l := List.mem_map.mpr ⟨r, List.mem_of_getElem? (by simpa using h), rfl⟩
      have ne : ¬ (Sum.inr x.1 : Int ⊕ Str) = .inr r.1 := fun z => hn2.1 (by have e := Sum.inr.inj z; have hm' : r.1 ∈ l.map (fun x : Ln => x.1) := hm; rw [← e] at hm'; exact hm')
      rw [show decide ((Sum.inr x.1 : Int ⊕ Str) = .inr r.1) = false from decide_eq_false ne]
      exact ih hn2.2 (by simpa using h)
theorem enD_getm {es : List Ln} (hn : (lnN es).Nodup) {r : Ln} (h : r ∈ es) : getT (enD es) (.inr r.1) = some (lnD r) := by
  obtain ⟨i, hi⟩ := List.mem_iff_getElem?.mp h
  exact enD_get hn hi
theorem enD_has {es : List Ln} {s : Str} : hasT (enD es) (.inr s) = decide (s ∈ lnN es) := by
  unfold hasT enD lnN
  rw [List.any_map, Bool.eq_iff_iff, List.any_eq_true, decide_eq_true_eq, List.mem_map]
  constructor
  · rintro ⟨r, h1, h2⟩
    exact ⟨r, h1, Sum.inr.inj (of_decide_eq_true h2)⟩
  · rintro ⟨r, h1, h2⟩
    exact ⟨r, h1, decide_eq_true (congrArg Sum.inr h2)⟩
theorem getT_some {κ α : Type} [DecidableEq κ] (kvs : List (κ × α)) (k : κ) : (getT kvs k).isSome = hasT kvs k := by
  unfold getT hasT
  rw [Option.isSome_map]
  induction kvs with
  | nil => rfl
  | cons x l ih =>
    rw [List.find?_cons, List.any_cons]
    cases h : decide (x.1 = k) with
    | true => rfl
    | false => rw [ih]; rfl
theorem enD_in (es : List Ln) (s : Str) : (getT (enD es) (.inr s)).isSome = decide (s ∈ lnN es) := (getT_some _ _).trans enD_has
theorem enD_put {es : List Ln} {r : Ln} (h : ¬ r.1 ∈ lnN es) : putT (enD es) (.inr r.1) (lnD r) = enD (es ++ [r]) := by
  unfold putT
  rw [if_neg (by rw [enD_has, decide_eq_true_eq]; exact h), enD_app]
  rfl
theorem enD_take {es : List Ln} (hn : (lnN es).Nodup) {i : Nat} {r : Ln} (h : es[i]? = some r) : putT (enD (es.take i)) (.inr r.1) (lnD r) = enD (es.take (i + 1)) := by
  rw [enD_put, take_succ_some h]
  intro hm
  have e : lnN es = lnN (es.take i) ++ (r.1 :: lnN (es.drop (i + 1))) := by
    obtain ⟨hi, rfl⟩ := List.getElem?_eq_some_iff.mp h
    unfold lnN
    have e2 : es = es.take i ++ es[i] :: es.drop (i + 1) := by rw [List.getElem_cons_drop, List.take_append_drop]
    exact (congrArg (List.map fun x : Ln => x.1) e2).trans List.map_append
  rw [e, List.nodup_append] at hn
  exact hn.2.2 _ hm _ List.mem_cons_self rfl
theorem enD_at {es : List Ln} {i : Nat} {kv : Key × D} (h : (enD es)[i]? = some kv) : ∃ r, es[i]? = some r ∧ kv = (.inr r.1, lnD r) := by
  unfold enD at h
  rw [List.getElem?_map] at h
  obtain ⟨r, h1, h2⟩ := Option.map_eq_some_iff.mp h
  exact ⟨r, h1, h2.symm⟩
def rowOf (es : List Ln) (l : Str) : Option Ln := es.find? fun r => decide (r.1 = l)
theorem rowOf_mem {es : List Ln} {l : Str} {r : Ln} (h : rowOf es l = some r) : r ∈ es ∧ r.1 = l := ⟨List.mem_of_find?_eq_some h, of_decide_eq_true (p := r.1 = l) (List.find?_some (p := fun r : Ln => decide (r.1 = l)) h)⟩
theorem rowOf_in {es : List Ln} {l : Str} (h : l ∈ lnN es) : ∃ r, rowOf es l = some r := by
  obtain ⟨r, hr, e⟩ := List.mem_map.mp h
  cases hf : rowOf es l with
  | some r => exact ⟨r, rfl⟩
  | none =>
    have := List.find?_eq_none.mp hf r hr
    exact absurd (decide_eq_true e) this
theorem lnN_at {es : List Ln} {i : Nat} {r : Ln} (h : es[i]? = some r) : (lnN es)[i]? = some r.1 := by
  unfold lnN
  rw [List.getElem?_map, h]
  rfl
def stO (es : List Ln) (x : Str) : Str := match rowOf es x with
  | some r => r.2.1
  | none => ""
def enO (es : List Ln) (x : Str) : Str := match rowOf es x with
  | some r => r.2.2
  | none => ""
theorem row_eqn {es : List Ln} (hn : (lnN es).Nodup) {r : Ln} (m : r ∈ es) : rowOf es r.1 = some r := by
  obtain ⟨r', h⟩ := rowOf_in (List.mem_map.mpr ⟨r, m, rfl⟩ : r.1 ∈ lnN es)
  obtain ⟨m', e⟩ := rowOf_mem h
  obtain ⟨i, hi⟩ := List.mem_iff_getElem?.mp m
  obtain ⟨j, hj⟩ := List.mem_iff_getElem?.mp m'
  have hij : i = j := by
    have h1 := lnN_at hi
    have h2 := lnN_at hj
    rw [e] at h2
    exact (List.getElem?_inj (List.getElem?_eq_some_iff.mp h1).1 hn).mp (h1.trans h2.symm)
  subst hij
  rw [hi] at hj
  rw [h, Option.some.inj hj]
theorem stO_eq {es : List Ln} (hn : (lnN es).Nodup) {r : Ln} (m : r ∈ es) : stO es r.1 = r.2.1 := by unfold stO; rw [row_eqn hn m]
theorem enO_eq {es : List Ln} (hn : (lnN es).Nodup) {r : Ln} (m : r ∈ es) : enO es r.1 = r.2.2 := by unfold enO; rw [row_eqn hn m]
def ct_Net___init (K : PySem.W.Frag) : Ct := Ct3 fun s o e ka out => ∃ a t b ps es, s = .val (.adr a) ∧ ka = [(a, .ins (He.ga K "Net") [])] ∧ Lk ka o t (stD ps) b ∧ ps.length ≤ 50000 ∧ es.length ≤ 50000 ∧ (lnN es).Nodup ∧ ((e = .val .non ∧ es = []) ∨ e = .val (.dic (enD es))) ∧
  out = fun o' k => ∃ o d, o' = .ret .non ∧ k = NetC K a o d ps es
section
variable {P : Program} {w : World} {K : PySem.W.Frag} {mg : Str → Option Value} {base : Heap}
theorem ok_Net___init (T : Tx K mg) : FnE P w K mg base 4 (He.ma K (He.ga K "Net") "__init__") ["self", "order", "ends_by_lane"] [.ref (He.dflAt ("Net", some "__init__") 0 K), .non] (ct_Net___init K) := by
  obtain ⟨fd, F⟩ := T.d_Net___init
  refine fn_okE F sc_Net___init (F.binds1 1 0 (by simp) rfl fun _ _ _ _ _ _ _ us its hu hi => match us, its, hu, hi with | [_], [_, _], _, _ => ⟨_, rfl, rfl⟩) (F.binds1 3 2 (by simp) rfl fun _ _ _ _ _ _ _ us its hu hi => match us, its, hu, hi with | [_, _, _], [_, _], _, _ => ⟨_, rfl, rfl⟩) ct3_len (fun cdv A outer s H E hr => ⟨_, (pss_cons (ps_set (i := 3) sc_Net___init.nd rfl (by first | exact Or.inl rfl | exact Or.inr rfl) (pe_ifExp (pt_cmpR op_isN1 (pv 2) pe_non (nomark _)) pe_dnewK (pv 2)))
      (pss_cons (ps_fld (pv 0) (pe_callTy call_lstU rfl T.n_list (by decide +kernel) (pa_cons (pv 1) pa_nil)) rfl)
      (pss_one (ps_fld (pv 0) (pe_lkE (pe_dc (tk := (tVar 4)) (tv := (tDGet (tVar 3) (tVar 4))) (tt := tYes) (own := [("lane", 4)]) rfl sc_Net___init.nd (pi_keys (pv 3)) (blk_ok ["self", "order", "ends_by_lane", "known", "lane"] (defScope s_Net___init) rfl rfl (by decide +kernel)) (fun _ _ _ _ _ => (pg_name (i := 4) sc_Net___init.nd rfl (by first | exact Or.inl rfl | exact Or.inr rfl))) (fun _ _ _ _ _ => pts_nil) (fun _ _ _ _ _ => (pv 4)) (fun _ _ _ _ _ => (pe_dget (hu1 hr) (pv 3) (pv 4) fun _ _ => rfl)))) rfl)))), fun ws ka out B F0 Q hC hR hX => ?_⟩)
  obtain ⟨s, o, e, rfl, a, t, b, ps, es, rfl, rfl, lo, hps, hes, hn, he, rfl⟩ := hC
  have main : Gp K B F0 [] (tSeq (sFld K (tVar 0) (tCB (rLstU K) (tCons (tVar 1) tNil)) "order") (sFld K (tVar 0) (tLkE (tDc (iKeys (tVar 3)) (gName 4) tYes (tVar 4) (tDGet (tVar 3) (tVar 4)) [4])) "ends_by_lane") { nx := fun _ H' => Q .non H', rt := Q })
      [some (.val (.adr a)), some o, some e, some (.val (.dic (enD es))), none] [(a, .ins (He.ga K "Net") [])] := by
    refine q_fldR (C := He.ga K "Net") (a := a) (evn_cb (ea1 (ev_var rfl)) (rcn_lst lo (sqf_stD b ps))).toR T.cl_Net T.na_Net_order (fun w k1 ⟨p, h1, h2⟩ => ⟨.adr p, k1, 0, [], h1, ev_var rfl, by rw [h2]; rfl, by decide, ?_⟩)
    subst h2
    refine g_fldR (C := He.ga K "Net") (a := a) (evr_dcK (evp_var rfl) (by simp) (by rw [enD_len]; omega) (fun i acc k => acc = enD (es.take i) ∧ k = [(a, .ins (He.ga K "Net") [("order", .adr p)]), (p, .lst (stD ps))]) ⟨rfl, rfl⟩ (fun i kv acc k hk ⟨e1, e2⟩ => ?_)).toR T.cl_Net T.na_Net_ends_by_lane (fun w k1 ⟨d, n, k0, h1, ⟨acc, h2, h3, h4⟩, h5⟩ => ⟨.adr d, k1, 0, [("order", .adr p)], h1, ev_var rfl, by rw [h5, h4]; rfl, (show 1 < 900 by decide), ?_⟩)
    · obtain ⟨r, hr1, rfl⟩ := enD_at hk
      subst e1 e2
      exact .inr ⟨_, _, _, .inr r.1, lnD r, et_yes, ev_var rfl, ev_dgetV (ev_var rfl) (ev_var rfl) .v (enD_get hn hr1), enD_take hn hr1, rfl⟩
    · subst h5 h4 h2 h3
      rw [enD_len, List.take_length]
      exact g_end hR ⟨p, d, rfl, rfl⟩
  rcases he with ⟨rfl, rfl⟩ | rfl
  · exact q_asgR (evr_ifT ((et_test (ev_isN (ev_var rfl))).to rfl) evn_dnew.toR) fun w k1 ⟨a1, h1, h2⟩ => by
      subst h1 h2
      exact Gp.frzK (i := 3) rfl (List.Perm.refl _) main
  · exact q_asg (ev_ifF ((et_test (ev_isN (ev_var rfl))).to rfl) (ev_var rfl)) main
end
/-- w is a net: its two fields -/
structure NetW (K : PySem.W.Frag) (ka : Cells) (s : W) (ps : List Str) (es : List Ln) : Prop where
  as : s = .val (NetD K ps es) ∨ ∃ a o d, s = .val (.adr a) ∧ ka = NetC K a o d ps es
theorem NetW.order {K : PySem.W.Frag} {ka : Cells} {s : W} {ps : List Str} {es : List Ln} {te : TE} {ro : Ro} (h : NetW K ka s ps es) (c : Cls K (He.ga K "Net")) (nf : NoAttr K (He.ga K "Net") "order") (he : EvD K te ro ka s ka) :
    ∃ x, EvD K (tFld K te "order") ro ka x ka ∧ Lk ka x false (stD ps) false := by
  rcases h.as with rfl | ⟨a, o, d, rfl, rfl⟩
  · exact ⟨_, ev_fld he .v c nf rfl, .vl⟩
  · exact ⟨_, ev_fld he (.c 0 rfl) c nf rfl, .ce 1 rfl⟩
def ct_Net_posts (K : PySem.W.Frag) : Ct := Ct1 fun s ka out => ∃ ps es, NetW K ka s ps es ∧ out = Rt (.tup (stD ps)) ka
section
variable {P : Program} {w : World} {K : PySem.W.Frag} {mg : Str → Option Value} {base : Heap}
theorem ok_Net_posts (T : Tx K mg) : Fn P w K mg base 4 (pga K (He.ga K "Net") "posts") ["self"] (ct_Net_posts K) := by
  obtain ⟨fd, F⟩ := T.d_Net_posts
  refine fn_ok F sc_Net_posts (fun _ _ _ _ _ _ us hl => match us, hl with | [_], _ => rfl) ct1_len (fun cdv A outer s H E hr => ⟨_, (pss_one (ps_ret (pe_callTy call_tupU rfl T.n_tuple (by decide +kernel) (pa_cons (pe_fld (pv 0) rfl) pa_nil)))), fun ws ka out B F0 Q hC hR hX => ?_⟩)
  obtain ⟨s, rfl, ps, es, h, rfl⟩ := hC
  obtain ⟨x, h1, h2⟩ := h.order T.cl_Net T.na_Net_order (te := tVar 0) (ro := [some s]) (ev_var rfl)
  exact g_ret hR (ev_cb (ea1 h1) (rc_tupL h2 (sqf_stD _ _))) ⟨rfl, rfl⟩
end
def ct_Net_lanes (K : PySem.W.Frag) : Ct := Ct1 fun s ka out => ∃ ps es, s = .val (NetD K ps es) ∧ es.length ≤ 50000 ∧ ka = [] ∧ out = Rt (.tup (stD (lnN es))) []
section
variable {P : Program} {w : World} {K : PySem.W.Frag} {mg : Str → Option Value} {base : Heap}
theorem ok_Net_lanes (T : Tx K mg) : Fn P w K mg base 4 (pga K (He.ga K "Net") "lanes") ["self"] (ct_Net_lanes K) := by
  obtain ⟨fd, F⟩ := T.d_Net_lanes
  refine fn_ok F sc_Net_lanes (fun _ _ _ _ _ _ us hl => match us, hl with | [_], _ => rfl) ct1_len (fun cdv A outer s H E hr => ⟨_, (pss_one (ps_ret (pe_callTy call_tupU rfl T.n_tuple (by decide +kernel) (pa_cons (pe_lkE (pe_lc (te := (tVar 1)) (tt := tYes) (own := [("lane", 1)]) rfl sc_Net_lanes.nd (pi_keys (pe_fld (pv 0) rfl)) (blk_ok ["self", "lane"] (defScope s_Net_lanes) rfl rfl (by decide +kernel)) (fun _ _ _ _ _ => (pg_name (i := 1) sc_Net_lanes.nd rfl (by first | exact Or.inl rfl | exact Or.inr rfl))) (fun _ _ _ _ _ => pts_nil) (fun _ _ _ _ _ => (pv 1)))) pa_nil)))), fun ws ka out B F0 Q hC hR hX => ?_⟩)
  obtain ⟨s, rfl, ps, es, rfl, hl, rfl, rfl⟩ := hC
  refine g_ret hR (ev_cb (ea1 ((evr_lcK (evp_fld (evp_var rfl) T.cl_Net T.na_Net_ends_by_lane rfl) (by decide) (by rw [enD_len]; omega) (fun i acc k => acc = stD (lnN (es.take i)) ∧ k = []) ⟨rfl, rfl⟩ (fun i kv acc k hk ⟨e1, e2⟩ => ?_)).lstD (ds := stD (lnN es)) fun n k ⟨acc, e1, e2, e3⟩ => ⟨?_, e3⟩)) (rc_tupL .vl (.inl rfl))) ⟨rfl, rfl⟩
  all_goals first
    | (rw [e1, e2, enD_len, List.take_length]; done)
    | (subst e1 e2
       obtain ⟨r, hr2, rfl⟩ := enD_at hk
       refine .inr ⟨_, _, .str r.1, et_yes, ev_var rfl, ?_, rfl⟩
       rw [take_succ_some hr2]
       have e : lnN (es.take i ++ [r]) = lnN (es.take i) ++ [r.1] := List.map_append
       rw [e, ← stD_app]
       rfl)
end
/-- how post ends -/
def poO (K : PySem.W.Frag) (a o d : Addr) (ps : List Str) (es : List Ln) (x : D) : Oc :=
  if isNmD x = false then Xt (He.ga K "BadName") [("name", x)] (NetC K a o d ps es)
  else match x with
    | .str s => if s ∈ ps then Xt (He.ga K "NameTaken") [("name", x)] (NetC K a o d ps es) else Rt .non (NetC K a o d (ps ++ [s]) es)
    | _ => fun _ _ => True
def ct_Net_post (K : PySem.W.Frag) : Ct := Ct2 fun s b ka out => ∃ a o d ps es x, s = .val (.adr a) ∧ b = .val x ∧ nmOk x ∧ ps.length < 50000 ∧ ka = NetC K a o d ps es ∧ out = poO K a o d ps es x
section
variable {P : Program} {w : World} {K : PySem.W.Frag} {mg : Str → Option Value} {base : Heap}
theorem ok_Net_post (T : Tx K mg) (F_is_name : Fn P w K mg base 4 (He.ga K "is_name") ["word"] (ct_is_name K)) (Z_BadName : Xn P w K mg base (He.ga K "BadName") "name") (Z_NameTaken : Xn P w K mg base (He.ga K "NameTaken") "name") : Fn P w K mg base 6 (He.ma K (He.ga K "Net") "post") ["self", "name"] (ct_Net_post K) := by
  obtain ⟨fd, F⟩ := T.d_Net_post
  refine fn_ok F sc_Net_post (fun _ _ _ _ _ _ us hl => match us, hl with | [_, _], _ => rfl) ct2_len (fun cdv A outer s H E hr => ⟨_, (pss_cons (ps_if (pt_not (pt_val (pe_call (F_is_name.up (by decide)).ok hr rfl T.g_is_name.1 T.g_is_name.2 (F_is_name.up (by decide)).bn .nil (pass_own rfl rfl rfl rfl) (pa_cons (pv 1) pa_nil))))
      (pss_one (ps_raise rfl (takes_of rfl rfl rfl rfl) (pmk_oex Z_BadName.xc.oex Z_BadName.all.1 Z_BadName.all.2.1 Z_BadName.all.2.2.1 (hr.mono (by decide)) Z_BadName.all.2.2.2 .nil passes_no rfl T.g_BadName.1 (pa_cons (pv 1) pa_nil))))
      pss_nil)
      (pss_cons (ps_if (pt_cmpR op_inU (pv 1) (pe_fld (pv 0) rfl) (by with_unfolding_all rfl))
      (pss_one (ps_raise rfl (takes_of rfl rfl rfl rfl) (pmk_oex Z_NameTaken.xc.oex Z_NameTaken.all.1 Z_NameTaken.all.2.1 Z_NameTaken.all.2.2.1 (hr.mono (by decide)) Z_NameTaken.all.2.2.2 .nil passes_no rfl T.g_NameTaken.1 (pa_cons (pv 1) pa_nil))))
      pss_nil)
      (pss_one (ps_expr (pe_bm PySem.F.plainAttrs_list PySem.F.slot_list_append PySem.F.type_list_append mt_append (pe_fld (pv 0) rfl) (pa_cons (pv 1) pa_nil)))))), fun ws ka out B F0 Q hC hR hX => ?_⟩)
  obtain ⟨s, b, rfl, a, o, d, ps, es, x, rfl, rfl, hx, hl, rfl, rfl⟩ := hC
  refine q_when (et_not (et_B (ev_callP (ea1 (ev_var rfl)) ⟨_, rfl, x, rfl, hx, rfl, rfl⟩))) (fun hb => g_raise1 hX (ea1 (ev_var rfl)) Z_BadName.xc.oex Z_BadName.no ?_) (fun hb => ?_)
  · rw [Bool.not_eq_true'] at hb
    unfold poO
    rw [if_pos hb]
    exact ⟨rfl, rfl⟩
  rw [Bool.not_eq_false'] at hb
  have hs : ∃ s, x = .str s := by
    cases x with
    | str s => exact ⟨s, rfl⟩
    | _ => cases hb
  obtain ⟨s, rfl⟩ := hs
  have fo : ∀ {ro : Ro}, ro[0]? = some (some (.val (.adr a))) → EvD K (tFld K (tVar 0) "order") ro (NetC K a o d ps es) (.val (.adr o)) (NetC K a o d ps es) := fun h => ev_fld (ev_var h) (.c 0 rfl) T.cl_Net T.na_Net_order rfl
  refine q_when (et_test (ev_inL (ev_var rfl) (fo rfl) (.ce 1 rfl))) (fun hm => g_raise1 hX (ea1 (ev_var rfl)) Z_NameTaken.xc.oex Z_NameTaken.no ?_) (fun hm => ?_)
  · rw [decide_eq_true_eq] at hm
    unfold poO
    rw [if_neg (by rw [hb]; decide)]
    show (if s ∈ ps then _ else _ : Oc) _ _
    rw [if_pos hm]
    exact ⟨rfl, rfl⟩
  · rw [decide_eq_false_iff_not] at hm
    refine g_app (j0 := 1) (j := 1) (fo rfl) rfl (ev_var rfl) rfl (by rw [stD_len]; omega) (g_end hR ?_)
    unfold poO
    rw [if_neg (by rw [hb]; decide)]
    show (if s ∈ ps then _ else _ : Oc) _ _
    rw [if_neg hm]
    refine ⟨rfl, ?_⟩
    unfold NetC
    rw [← stD_app]
    rfl
end
/-- how lane ends -/
def laO (K : PySem.W.Frag) (a o d : Addr) (ps : List Str) (es : List Ln) (x : D) (st en : Str) : Oc :=
  if isNmD x = false then Xt (He.ga K "BadName") [("name", x)] (NetC K a o d ps es)
  else match x with
    | .str s => if s ∈ lnN es then Xt (He.ga K "NameTaken") [("name", x)] (NetC K a o d ps es) else if ¬ st ∈ ps then Xt (He.ga K "NoPost") [("name", .str st)] (NetC K a o d ps es) else if ¬ en ∈ ps then Xt (He.ga K "NoPost") [("name", .str en)] (NetC K a o d ps es)
      else Rt .non (NetC K a o d ps (es ++ [(s, st, en)]))
    | _ => fun _ _ => True
def ct_Net_lane (K : PySem.W.Frag) : Ct := Ct4 fun s b c e ka out => ∃ a o d ps es x st en, s = .val (.adr a) ∧ b = .val x ∧ nmOk x ∧ c = .val (.str st) ∧ e = .val (.str en) ∧ es.length < 50000 ∧ ka = NetC K a o d ps es ∧ out = laO K a o d ps es x st en
section
variable {P : Program} {w : World} {K : PySem.W.Frag} {mg : Str → Option Value} {base : Heap}
theorem ok_Net_lane (T : Tx K mg) (F_is_name : Fn P w K mg base 4 (He.ga K "is_name") ["word"] (ct_is_name K)) (Z_BadName : Xn P w K mg base (He.ga K "BadName") "name") (Z_NameTaken : Xn P w K mg base (He.ga K "NameTaken") "name") (Z_NoPost : Xn P w K mg base (He.ga K "NoPost") "name") : Fn P w K mg base 6 (He.ma K (He.ga K "Net") "lane") ["self", "name", "start", "end"] (ct_Net_lane K) := by
  obtain ⟨fd, F⟩ := T.d_Net_lane
  refine fn_ok F sc_Net_lane (fun _ _ _ _ _ _ us hl => match us, hl with | [_, _, _, _], _ => rfl) ct4_len (fun cdv A outer s H E hr => ⟨_, (pss_cons (ps_if (pt_not (pt_val (pe_call (F_is_name.up (by decide)).ok hr rfl T.g_is_name.1 T.g_is_name.2 (F_is_name.up (by decide)).bn .nil (pass_own rfl rfl rfl rfl) (pa_cons (pv 1) pa_nil))))
      (pss_one (ps_raise rfl (takes_of rfl rfl rfl rfl) (pmk_oex Z_BadName.xc.oex Z_BadName.all.1 Z_BadName.all.2.1 Z_BadName.all.2.2.1 (hr.mono (by decide)) Z_BadName.all.2.2.2 .nil passes_no rfl T.g_BadName.1 (pa_cons (pv 1) pa_nil))))
      pss_nil)
      (pss_cons (ps_if (pt_cmp (pc_din (hu1 hr) (pv 1) (pe_fld (pv 0) rfl)) (by with_unfolding_all rfl))
      (pss_one (ps_raise rfl (takes_of rfl rfl rfl rfl) (pmk_oex Z_NameTaken.xc.oex Z_NameTaken.all.1 Z_NameTaken.all.2.1 Z_NameTaken.all.2.2.1 (hr.mono (by decide)) Z_NameTaken.all.2.2.2 .nil passes_no rfl T.g_NameTaken.1 (pa_cons (pv 1) pa_nil))))
      pss_nil)
      (pss_cons (ps_for (passes_of rfl) rfl (pi_seq (pe_tup (pa_cons (pv 2) (pa_cons (pv 3) pa_nil)))) (pg_name (i := 4) sc_Net_lane.nd rfl (by first | exact Or.inl rfl | exact Or.inr rfl)) (pss_one (ps_if (pt_cmpR op_niU (pv 4) (pe_fld (pv 0) rfl) (by with_unfolding_all rfl))
      (pss_one (ps_raise rfl (takes_of rfl rfl rfl rfl) (pmk_oex Z_NoPost.xc.oex Z_NoPost.all.1 Z_NoPost.all.2.1 Z_NoPost.all.2.2.1 (hr.mono (by decide)) Z_NoPost.all.2.2.2 .nil passes_no rfl T.g_NoPost.1 (pa_cons (pv 4) pa_nil))))
      pss_nil)))
      (pss_one (ps_dput (hu1 hr) (pe_fld (pv 0) rfl) (pv 1) (pe_tup (pa_cons (pv 2) (pa_cons (pv 3) pa_nil))) rfl))))), fun ws ka out B F0 Q hC hR hX => ?_⟩)
  obtain ⟨s, b, c, e, rfl, a, o, d, ps, es, x, st, en, rfl, rfl, hx, rfl, rfl, hl, rfl, rfl⟩ := hC
  refine q_when (et_not (et_B (ev_callP (ea1 (ev_var rfl)) ⟨_, rfl, x, rfl, hx, rfl, rfl⟩))) (fun hb => g_raise1 hX (ea1 (ev_var rfl)) Z_BadName.xc.oex Z_BadName.no ?_) (fun hb => ?_)
  · rw [Bool.not_eq_true'] at hb
    unfold laO
    rw [if_pos hb]
    exact ⟨rfl, rfl⟩
  rw [Bool.not_eq_false'] at hb
  have hs : ∃ s, x = .str s := by
    cases x with
    | str s => exact ⟨s, rfl⟩
    | _ => cases hb
  obtain ⟨s, rfl⟩ := hs
  have hb' : ¬ isNmD (.str s) = false := by rw [hb]; decide
  have fo : ∀ {ro : Ro}, ro[0]? = some (some (.val (.adr a))) → EvD K (tFld K (tVar 0) "order") ro (NetC K a o d ps es) (.val (.adr o)) (NetC K a o d ps es) := fun h => ev_fld (ev_var h) (.c 0 rfl) T.cl_Net T.na_Net_order rfl
  have fe : ∀ {ro : Ro}, ro[0]? = some (some (.val (.adr a))) → EvD K (tFld K (tVar 0) "ends_by_lane") ro (NetC K a o d ps es) (.val (.adr d)) (NetC K a o d ps es) := fun h => ev_fld (ev_var h) (.c 0 rfl) T.cl_Net T.na_Net_ends_by_lane rfl
  refine q_when (et_B ((ev_din (ev_var rfl) (fe rfl) (.ce 2 rfl)).to (by rw [enD_in]))) (fun hm => g_raise1 hX (ea1 (ev_var rfl)) Z_NameTaken.xc.oex Z_NameTaken.no ?_) (fun hm => ?_)
  · rw [decide_eq_true_eq] at hm
    unfold laO
    rw [if_neg hb']
    show (if s ∈ lnN es then _ else _ : Oc) _ _
    rw [if_pos hm]
    exact ⟨rfl, rfl⟩
  rw [decide_eq_false_iff_not] at hm
  have hO : laO K a o d ps es (.str s) st en = if ¬ st ∈ ps then Xt (He.ga K "NoPost") [("name", .str st)] (NetC K a o d ps es) else if ¬ en ∈ ps then Xt (He.ga K "NoPost") [("name", .str en)] (NetC K a o d ps es)
        else Rt .non (NetC K a o d ps (es ++ [(s, st, en)])) := by
    unfold laO
    rw [if_neg hb']
    show (if s ∈ lnN es then _ else _ : Oc) = _
    rw [if_neg hm]
  rw [hO] at hR hX
  refine q_forn (ei_seq (ev_tup (ds := [.str st, .str en]) (ea2 (ev_var rfl) (ev_var rfl)) (show 2 ≤ 100000 by decide)) .vt) (fun i ro ka' => ∃ v, ro = [some (.val (.adr a)), some (.val (.str s)), some (.val (.str st)), some (.val (.str en)), v] ∧ ka' = NetC K a o d ps es ∧ (0 < i → st ∈ ps) ∧ (1 < i → en ∈ ps)) ⟨none, rfl, rfl, fun z => absurd z (by decide), fun z => absurd z (by decide)⟩ (fun i ro2 ka2 _ => trivial) (fun i w ro2 ka2 ta' hw ⟨v, e1, e2, h1, h2⟩ => ?_) (fun ro2 ka2 ta' ⟨v, e1, e2, h1, h2⟩ _ => ?_)
  · subst e1 e2
    match i, hw with
    | 0, hw =>
      cases hw
      refine g_if (et_test (ev_niL (ev_var rfl) (fo rfl) (.ce 1 rfl))) (fun hm => g_raise1 hX (ea1 (ev_var rfl)) Z_NoPost.xc.oex Z_NoPost.no ?_) (fun hm => g_next (g_jp ⟨_, rfl, rfl, fun _ => ?_, fun z => by omega⟩))
      · rw [Bool.not_eq_true', decide_eq_false_iff_not] at hm
        rw [if_pos hm]
        exact ⟨rfl, rfl⟩
      · rw [Bool.not_eq_false', decide_eq_true_eq] at hm
        exact hm
    | 1, hw =>
      cases hw
      refine g_if (et_test (ev_niL (ev_var rfl) (fo rfl) (.ce 1 rfl))) (fun hm => g_raise1 hX (ea1 (ev_var rfl)) Z_NoPost.xc.oex Z_NoPost.no ?_) (fun hm => g_next (g_jp ⟨_, rfl, rfl, fun _ => h1 (by decide), fun _ => ?_⟩))
      · rw [Bool.not_eq_true', decide_eq_false_iff_not] at hm
        rw [if_neg (fun z => z (h1 (by decide))), if_pos hm]
        exact ⟨rfl, rfl⟩
      · rw [Bool.not_eq_false', decide_eq_true_eq] at hm
        exact hm
    | i + 2, hw => simp at hw
  · subst e1 e2
    have h1 := h1 (show 0 < 2 by decide)
    have h2 := h2 (show 1 < 2 by decide)
    refine g_dput (j := 2) (ev_tup (ds := [.str st, .str en]) (ea2 (ev_var rfl) (ev_var rfl)) (show 2 ≤ 100000 by decide)) (fe rfl) (ev_var rfl) rfl (by rw [enD_len]; omega) (g_end hR ?_)
    rw [if_neg (fun z => z h1), if_neg (fun z => z h2)]
    refine ⟨rfl, ?_⟩
    have := enD_put (r := (s, st, en)) hm
    unfold NetC
    rw [← this]
    rfl
end
def ct_is_text (K : PySem.W.Frag) : Ct := Ct2 fun a m ka out => ∃ (d : D) (n : Nat), a = .val d ∧ nmOk d ∧ m = .val (.int (n : Int)) ∧ ka = [] ∧ out = Rt (.bl (isTxD n d)) []
section
variable {P : Program} {w : World} {K : PySem.W.Frag} {mg : Str → Option Value} {base : Heap}
theorem ok_is_text (T : Tx K mg) : Fn P w K mg base 4 (He.ga K "is_text") ["text", "most"] (ct_is_text K) := by
  obtain ⟨fd, F⟩ := T.d_is_text
  refine fn_ok F sc_is_text (fun _ _ _ _ _ _ us hl => match us, hl with | [_, _], _ => rfl) ct2_len (fun cdv A outer s H E hr => ⟨_, (pss_cons (ps_if (PW.pt (pw_or (pt_not (pt_val (pe_callB call_isi rfl T.n_isinstance (by decide +kernel) (pa_cons (pv 0) (pa_cons (pe_bltn (v := .ty "str") rfl T.n_str (by decide +kernel) rfl) pa_nil))))) (pw_or (pt_cmpR (op_eqP (by have := (hr).units; exact this)) (pv 0) pe_str (nomark _)) (pw_or1 (pt_cmpR op_gt (pe_callB call_lenU rfl T.n_len (by decide +kernel) (pa_cons (pv 0) pa_nil)) (pv 1) (nomark _))))))
      (pss_one (ps_ret pe_bl))
      pss_nil)
      (pss_one (ps_ret (pe_callB (cr_all rfl) rfl T.n_all (by decide +kernel) (pa_cons (pe_lc (te := (tOp (rInU K) (tVar 2) (tC (.str "abcdefghijklmnopqrstuvwxyz")))) (tt := tYes) (own := [("sign", 2)]) rfl sc_is_text.nd (pi_seq (pv 0)) (blk_ok ["text", "most", "sign"] (defScope s_is_text) rfl rfl (by decide +kernel)) (fun _ _ _ _ _ => (pg_name (i := 2) sc_is_text.nd rfl (by first | exact Or.inl rfl | exact Or.inr rfl))) (fun _ _ _ _ _ => pts_nil) (fun _ _ _ _ _ => (pe_cmpR op_inU (pv 2) (pe_gv rfl T.v_LETTERS) (by with_unfolding_all rfl)))) pa_nil))))), fun ws ka out B F0 Q hC hR hX => ?_⟩)
  obtain ⟨a, m, rfl, d, n, rfl, hd, rfl, rfl, rfl⟩ := hC
  have other : (∃ s, d = .str s) ∨ ∃ t, tyD d = some t ∧ kitOne K (.type t) (.type "str") = some false ∧ isTxD n d = false := by
    cases d with
    | non => exact .inr ⟨_, rfl, T.kt_NoneType_str, rfl⟩
    | bl b => exact .inr ⟨_, rfl, T.kt_bool_str, rfl⟩
    | int i => exact .inr ⟨_, rfl, T.kt_int_str, rfl⟩
    | lst ds => exact .inr ⟨_, rfl, T.kt_list_str, rfl⟩
    | tup ds => exact .inr ⟨_, rfl, T.kt_tuple_str, rfl⟩
    | str s => exact .inl ⟨s, rfl⟩
    | _ => exact absurd rfl hd
  rcases other with ⟨s, rfl⟩ | ⟨t, ht, hk, hn⟩
  · have hs : s.length ≤ 100000 := Nat.le_trans hd (by decide)
    have emp : (s == ("" : Str)) = decide (s.length = 0) := by
      rw [Bool.eq_iff_iff, beq_iff_eq, decide_eq_true_eq]
      refine ⟨fun e => by rw [e]; rfl, fun e => str_nil (List.eq_nil_of_length_eq_zero (by rw [← str_len]; exact e))⟩
    refine q_when (et_or0 ((et_not (et_B (ev_isi (ev_var rfl) .str T.kt_str_str))).to rfl) (et_or ((et_test (ev_eqS (ev_var rfl) ev_str)).to emp) (fun _ => et_test (ev_gt (ev_lenS (ev_var rfl) hs) (ev_var rfl))))) (fun hb => g_ret hR ev_bl ⟨?_, rfl⟩) (fun hb => ?_)
    · show Out.ret (.bl false) = Out.ret (.bl (isTx n s))
      cases q : isTx n s with
      | false => rfl
      | true =>
        have := (isTx_iff.mp q).1
        rw [Bool.or_eq_true, decide_eq_true_eq, decide_eq_true_eq] at hb
        omega
    · rw [Bool.or_eq_false_iff, decide_eq_false_iff_not, decide_eq_false_iff_not] at hb
      refine g_ret hR (ev_cb (ea1 (evn_map (f := fun x => D.bl (decide (x ∈ letL))) (ei_str (ev_var rfl)) (by decide) (by rw [← str_len]; omega) ⟨trivial, fun _ => trivial⟩ (fun x hx => ev_inS (ev_var rfl) ev_str)).lst) (rc_all (b := false) (bs := s.cps.toList.map fun x => decide (x ∈ letL)) ?_)) ⟨?_, rfl⟩
      · rw [List.map_map]
        exact .vl
      · show Out.ret _ = Out.ret (.bl (isTx n s))
        unfold isTx
        rw [List.all_map, decide_eq_true (show 1 ≤ s.length ∧ s.length ≤ n by omega), Bool.true_and]
        rfl
  · exact q_when (et_or1 ((et_not (et_B (ev_isi (ev_var rfl) (tw_of ht) hk))).to rfl)) (fun _ => g_ret hR ev_bl ⟨by rw [hn], rfl⟩) (fun z => by cases z)
end
def ct_windows_in_turn (K : PySem.W.Frag) : Ct := Ct2 fun a b ka out => ∃ (s : Str) (k : Nat), a = .val (.str s) ∧ b = .val (.int (k : Int)) ∧ 1 ≤ s.length ∧ s.length ≤ 40 ∧ k ≤ 8 ∧ ka = [] ∧ out = Rt (.lst (stD (wins s k))) []
section
variable {P : Program} {w : World} {K : PySem.W.Frag} {mg : Str → Option Value} {base : Heap}
theorem ok_windows_in_turn (T : Tx K mg) : Fn P w K mg base 4 (He.ga K "windows_in_turn") ["text", "size"] (ct_windows_in_turn K) := by
  obtain ⟨fd, F⟩ := T.d_windows_in_turn
  refine fn_ok F sc_windows_in_turn (fun _ _ _ _ _ _ us hl => match us, hl with | [_, _], _ => rfl) ct2_len (fun cdv A outer s H E hr => ⟨_, (pss_cons (ps_set (i := 2) sc_windows_in_turn.nd rfl (by first | exact Or.inl rfl | exact Or.inr rfl) (pe_op op_mulS (pv 0) (pe_op op_addU (pe_op op_addU pe_int (pe_op op_fdiv (pv 1) (pe_callB call_lenU rfl T.n_len (by decide +kernel) (pa_cons (pv 0) pa_nil)))) pe_int)))
      (pss_one (ps_ret (pe_lc (te := (tSl (rSlU K) (tVar 2) (tPart (tVar 3)) (tPart (tOp (rAddU K) (tVar 3) (tVar 1))))) (tt := tYes) (own := [("place", 3)]) rfl sc_windows_in_turn.nd (pi_range1 rfl T.n_range (pa_cons (pe_callB call_lenU rfl T.n_len (by decide +kernel) (pa_cons (pv 0) pa_nil)) pa_nil)) (blk_ok ["text", "size", "long", "place"] (defScope s_windows_in_turn) rfl rfl (by decide +kernel)) (fun _ _ _ _ _ => (pg_name (i := 3) sc_windows_in_turn.nd rfl (by first | exact Or.inl rfl | exact Or.inr rfl))) (fun _ _ _ _ _ => pts_nil) (fun _ _ _ _ _ => (pe_slice sl_U (pv 2) (po_some (pv 3)) (po_some (pe_op op_addU (pv 3) (pv 1))))))))), fun ws ka out B F0 Q hC hR hX => ?_⟩)
  obtain ⟨a, b, rfl, s, k, rfl, rfl, h0, h1, hk, rfl, rfl⟩ := hC
  obtain ⟨q, q0⟩ : ∃ q, q = k / s.length := ⟨_, rfl⟩
  have hq : q ≤ 8 := q0 ▸ Nat.le_trans (Nat.div_le_self _ _) hk
  have hm : s.length + k ≤ (repS (1 + q + 1) s).length := by
    rw [repS_len]
    have a1 := Nat.div_add_mod k s.length
    rw [← q0] at a1
    have a2 := Nat.mod_lt k h0
    have e : (1 + q + 1) * s.length = s.length * (q) + s.length + s.length := by
      rw [Nat.add_mul, Nat.add_mul, Nat.one_mul, Nat.mul_comm (q)]
      omega
    omega
  have enp : EnP s.cps.toList (repS (1 + q + 1) s).cps.toList := by
    have := (enp_rep s.cps.toList (1 + q + 1)).1
    exact this
  refine q_asg (ev_mulS (n := 1 + q + 1) (ev_var rfl) ((ev_addI (ev_addI ev_int (ev_divI (ev_var rfl) (ev_lenS (ev_var rfl) (by omega)) ?cd)) ev_int).to ?ce) (by omega) (by omega) (by omega)) ?_
  case cd =>
    show CDiv _ _
    unfold CDiv
    omega
  case ce =>
    have e : ((k : Int) / (s.length : Int)) = (q : Int) := by rw [q0, Int.natCast_ediv]
    rw [e]
    push_cast
    rfl
  have lz : (repS (1 + q + 1) s).length ≤ 100000 := by
    rw [repS_len]
    exact Nat.le_trans (Nat.mul_le_mul (show 1 + q + 1 ≤ 10 by omega) h1) (by decide)
  refine g_ret hR ((evn_map (xs := List.range s.length) (g := fun i : Nat => W.val (.int (i : Int))) (f := fun i : Nat => D.str (winS s k i)) ?ei (by decide) (by rw [List.length_range]; omega) (C := fun _ => True) ⟨trivial, fun _ => trivial⟩ (fun i hi => ?_)).lst.to ?_) ⟨rfl, rfl⟩
  case ei =>
    have := ei_range1 (K := K) (ea1 (ev_lenS (te := tVar 0) (s := s) (ro := [some (.val (.str s)), some (.val (.int (k : Int))), some (.val (.str (repS (1 + q + 1) s))), none]) (ka := []) (k1 := []) (ev_var rfl) (by omega))) (by omega) (by omega)
    rwa [Int.toNat_natCast] at this
  · have hi := List.mem_range.mp hi
    exact (ev_slS (ev_var rfl) (eo_some (ev_var rfl)) (eo_some (ev_addI (ev_var rfl) (ev_var rfl))) lz).to (by rw [cut_win enp (by omega)])
  · unfold wins stD
    rw [List.map_map]
    rfl
end
/-- a length of windows -/
def isSz : D → Bool
  | .int k => decide (2 ≤ k ∧ k ≤ 8)
  | _ => false
/-- how checked_windows ends -/
def chO (K : PySem.W.Frag) (d e : D) : Oc :=
  if isTxD 40 d = false then Xt (He.ga K "BadWord") [("word", d)] [] else if isSz e = false then Xt (He.ga K "BadNumber") [("value", e)] [] else match d, e with
    | .str s, .int k => Rt (.lst (stD (wins s k.toNat))) []
    | _, _ => fun _ _ => True
theorem chO_ok {K : PySem.W.Frag} {s : Str} {k : Nat} (h : isTx 40 s = true) (h2 : 2 ≤ k) (h8 : k ≤ 8) : chO K (.str s) (.int (k : Int)) = Rt (.lst (stD (wins s k))) [] := by
  unfold chO
  rw [if_neg (by show ¬ isTx 40 s = false; rw [h]; decide), if_neg (by show ¬ decide _ = false; rw [decide_eq_true (by omega)]; decide)]
  show Rt (.lst (stD (wins s (k : Int).toNat))) [] = _
  rw [Int.toNat_natCast]
theorem chO_word {K : PySem.W.Frag} {d e : D} (h : isTxD 40 d = false) : chO K d e = Xt (He.ga K "BadWord") [("word", d)] [] := if_pos h
theorem chO_num {K : PySem.W.Frag} {d e : D} (h : isTxD 40 d = true) (h2 : isSz e = false) : chO K d e = Xt (He.ga K "BadNumber") [("value", e)] [] := (if_neg (by rw [h]; decide)).trans (if_pos h2)
def ct_checked_windows (K : PySem.W.Frag) : Ct := Ct2 fun a b ka out => ∃ d e, a = .val d ∧ nmOk d ∧ b = .val e ∧ tyD e ≠ none ∧ ka = [] ∧ out = chO K d e
section
variable {P : Program} {w : World} {K : PySem.W.Frag} {mg : Str → Option Value} {base : Heap}
theorem ok_checked_windows (T : Tx K mg) (F_is_whole : Fn P w K mg base 4 (He.ga K "is_whole") ["value"] (ct_is_whole K)) (F_is_text : Fn P w K mg base 4 (He.ga K "is_text") ["text", "most"] (ct_is_text K)) (F_windows_in_turn : Fn P w K mg base 4 (He.ga K "windows_in_turn") ["text", "size"] (ct_windows_in_turn K)) (Z_BadNumber : Xn P w K mg base (He.ga K "BadNumber") "value") (Z_BadWord : Xn P w K mg base (He.ga K "BadWord") "word") : Fn P w K mg base 6 (He.ga K "checked_windows") ["text", "size"] (ct_checked_windows K) := by
  obtain ⟨fd, F⟩ := T.d_checked_windows
  refine fn_ok F sc_checked_windows (fun _ _ _ _ _ _ us hl => match us, hl with | [_, _], _ => rfl) ct2_len (fun cdv A outer s H E hr => ⟨_, (pss_cons (ps_if (pt_not (pt_val (pe_call (F_is_text.up (by decide)).ok hr rfl T.g_is_text.1 T.g_is_text.2 (F_is_text.up (by decide)).bn .nil (pass_own rfl rfl rfl rfl) (pa_cons (pv 0) (pa_cons pe_int pa_nil)))))
      (pss_one (ps_raise rfl (takes_of rfl rfl rfl rfl) (pmk_oex Z_BadWord.xc.oex Z_BadWord.all.1 Z_BadWord.all.2.1 Z_BadWord.all.2.2.1 (hr.mono (by decide)) Z_BadWord.all.2.2.2 .nil passes_no rfl T.g_BadWord.1 (pa_cons (pv 0) pa_nil))))
      pss_nil)
      (pss_cons (ps_if (PW.pt (pw_or (pt_not (pt_val (pe_call (F_is_whole.up (by decide)).ok hr rfl T.g_is_whole.1 T.g_is_whole.2 (F_is_whole.up (by decide)).bn .nil (pass_own rfl rfl rfl rfl) (pa_cons (pv 1) pa_nil)))) (pw_or (pt_cmpR op_lt (pv 1) pe_int (nomark _)) (pw_or1 (pt_cmpR op_gt (pv 1) pe_int (nomark _))))))
      (pss_one (ps_raise rfl (takes_of rfl rfl rfl rfl) (pmk_oex Z_BadNumber.xc.oex Z_BadNumber.all.1 Z_BadNumber.all.2.1 Z_BadNumber.all.2.2.1 (hr.mono (by decide)) Z_BadNumber.all.2.2.2 .nil passes_no rfl T.g_BadNumber.1 (pa_cons (pv 1) pa_nil))))
      pss_nil)
      (pss_one (ps_ret (pe_call (F_windows_in_turn.up (by decide)).ok hr rfl T.g_windows_in_turn.1 T.g_windows_in_turn.2 (F_windows_in_turn.up (by decide)).bn .nil (pass_own rfl rfl rfl rfl) (pa_cons (pv 0) (pa_cons (pv 1) pa_nil))))))), fun ws ka out B F0 Q hC hR hX => ?_⟩)
  obtain ⟨a, b, rfl, d, e, rfl, hd, rfl, he, rfl, rfl⟩ := hC
  refine q_when (et_not (et_B (ev_callP (ea2 (ev_var rfl) ev_int) ⟨_, _, rfl, d, 40, rfl, hd, rfl, rfl, rfl⟩))) (fun hb => g_raise1 hX (ea1 (ev_var rfl)) Z_BadWord.xc.oex Z_BadWord.no ?_) (fun hb => ?_)
  · rw [chO_word (by simpa using hb)]
    exact ⟨rfl, rfl⟩
  have ht : isTxD 40 d = true := by simpa using hb
  cases q : isSz e with
  | false =>
    refine q_when (b := true) (k1 := []) ?_ (fun _ => g_raise1 hX (ea1 (ev_var rfl)) Z_BadNumber.xc.oex Z_BadNumber.no ?_) (fun z => by cases z)
    · cases e with
      | int k =>
        refine (et_or ((et_not (et_B (ev_callP (ea1 (ev_var rfl)) ⟨_, rfl, .int k, rfl, by exact he, rfl, rfl⟩))).to (b := false) rfl) (fun _ => et_or (et_test (ev_lt (ev_var rfl) ev_int)) (fun _ => et_test (ev_gt (ev_var rfl) ev_int)))).to ?_
        have : ¬ (2 ≤ k ∧ k ≤ 8) := of_decide_eq_false q
        rw [Bool.false_or, Bool.or_eq_true, decide_eq_true_eq, decide_eq_true_eq]
        omega
      | _ => exact et_or1 ((et_not (et_B (ev_callP (ea1 (ev_var rfl)) ⟨_, rfl, _, rfl, he, rfl, rfl⟩))).to rfl)
    · rw [chO_num ht q]
      exact ⟨rfl, rfl⟩
  | true =>
    cases e with
    | int k =>
      cases d with
      | str s =>
        have hk : 2 ≤ k ∧ k ≤ 8 := of_decide_eq_true q
        obtain ⟨n, rfl⟩ := Int.eq_ofNat_of_zero_le (show 0 ≤ k by omega)
        have hs := (isTx_iff.mp ht).1
        refine q_when (b := false) (k1 := []) ?_ (fun z => by cases z) (fun _ => g_ret hR (ev_callP (ea2 (ev_var rfl) (ev_var rfl)) ⟨_, _, rfl, s, n, rfl, rfl, hs.1, hs.2, by omega, rfl, rfl⟩) ?_)
        · refine (et_or ((et_not (et_B (ev_callP (ea1 (ev_var rfl)) ⟨_, rfl, .int (n : Int), rfl, by exact he, rfl, rfl⟩))).to (b := false) rfl) (fun _ => et_or (et_test (ev_lt (ev_var rfl) ev_int)) (fun _ => et_test (ev_gt (ev_var rfl) ev_int)))).to ?_
          rw [Bool.false_or, Bool.or_eq_false_iff, decide_eq_false_iff_not, decide_eq_false_iff_not]
          omega
        · rw [chO_ok ht (by omega) (by omega)]
          exact ⟨rfl, rfl⟩
      | _ => cases ht
    | _ => cases q
end
/-- how windows ends -/
def wdO (K : PySem.W.Frag) (d e : D) : Oc :=
  if isTxD 40 d = false then Xt (He.ga K "BadWord") [("word", d)] [] else if isSz e = false then Xt (He.ga K "BadNumber") [("value", e)] [] else match d, e with
    | .str s, .int k => Rt (.lst (stD (inOrd (wins s k.toNat)))) []
    | _, _ => fun _ _ => True
theorem wdO_ok {K : PySem.W.Frag} {s : Str} {k : Nat} (h : isTx 40 s = true) (h2 : 2 ≤ k) (h8 : k ≤ 8) : wdO K (.str s) (.int (k : Int)) = Rt (.lst (stD (inOrd (wins s k)))) [] := by
  unfold wdO
  rw [if_neg (by show ¬ isTx 40 s = false; rw [h]; decide), if_neg (by show ¬ decide _ = false; rw [decide_eq_true (by omega)]; decide)]
  show Rt (.lst (stD (inOrd (wins s (k : Int).toNat)))) [] = _
  rw [Int.toNat_natCast]
theorem wdO_word {K : PySem.W.Frag} {d e : D} (h : isTxD 40 d = false) : wdO K d e = Xt (He.ga K "BadWord") [("word", d)] [] := if_pos h
theorem wdO_num {K : PySem.W.Frag} {d e : D} (h : isTxD 40 d = true) (h2 : isSz e = false) : wdO K d e = Xt (He.ga K "BadNumber") [("value", e)] [] := (if_neg (by rw [h]; decide)).trans (if_pos h2)
def ct_windows (K : PySem.W.Frag) : Ct := Ct2 fun a b ka out => ∃ d e, a = .val d ∧ nmOk d ∧ b = .val e ∧ tyD e ≠ none ∧ ka = [] ∧ out = wdO K d e
section
variable {P : Program} {w : World} {K : PySem.W.Frag} {mg : Str → Option Value} {base : Heap}
theorem ok_windows (T : Tx K mg) (F_checked_windows : Fn P w K mg base 6 (He.ga K "checked_windows") ["text", "size"] (ct_checked_windows K)) : Fn P w K mg base 8 (He.ga K "windows") ["text", "k"] (ct_windows K) := by
  obtain ⟨fd, F⟩ := T.d_windows
  refine fn_ok F sc_windows (fun _ _ _ _ _ _ us hl => match us, hl with | [_, _], _ => rfl) ct2_len (fun cdv A outer s H E hr => ⟨_, (pss_one (ps_ret (pe_sset rfl rfl T.n_sorted rfl T.n_set (pe_call (F_checked_windows.up (by decide)).ok hr rfl T.g_checked_windows.1 T.g_checked_windows.2 (F_checked_windows.up (by decide)).bn .nil (pass_own rfl rfl rfl rfl) (pa_cons (pv 0) (pa_cons (pv 1) pa_nil)))))), fun ws ka out B F0 Q hC hR hX => ?_⟩)
  obtain ⟨a, b, rfl, d, e, rfl, hd, rfl, he, rfl, rfl⟩ := hC
  cases q1 : isTxD 40 d with
  | false =>
    refine g_retPX hX (evx_sset (evx_call (k2 := []) (k3 := []) (kr := []) (ea2 (ev_var rfl) (ev_var rfl)) ⟨_, _, rfl, d, e, rfl, hd, rfl, he, rfl, (chO_word q1).symm⟩ rfl)) ?_
    rw [wdO_word q1]
    exact ⟨rfl, rfl⟩
  | true =>
    cases q2 : isSz e with
    | false =>
      refine g_retPX hX (evx_sset (evx_call (k2 := []) (k3 := []) (kr := []) (ea2 (ev_var rfl) (ev_var rfl)) ⟨_, _, rfl, d, e, rfl, hd, rfl, he, rfl, (chO_num q1 q2).symm⟩ rfl)) ?_
      rw [wdO_num q1 q2]
      exact ⟨rfl, rfl⟩
    | true =>
      cases e with
      | int k =>
        cases d with
        | str s =>
          have hk : 2 ≤ k ∧ k ≤ 8 := of_decide_eq_true q2
          obtain ⟨n, rfl⟩ := Int.eq_ofNat_of_zero_le (show 0 ≤ k by omega)
          have hs := (isTx_iff.mp q1).1
          have lw : (wins s n).length ≤ 40 := by rw [wins_len]; exact hs.2
          have lo : (onceS (wins s n)).length < 64 := by
            rw [once_len]
            have := inOrd_len (wins s n)
            omega
          refine g_ret hR (evn_sset (b := false) (t := false) (ev_callP (ea2 (ev_var rfl) (ev_var rfl)) ⟨_, _, rfl, .str s, .int (n : Int), rfl, hd, rfl, he, rfl, (chO_ok q1 (by omega) (by omega)).symm⟩) .vl (by omega) lo).lst ?_
          rw [wdO_ok q1 (by omega) (by omega), once_inOrd]
          exact ⟨rfl, rfl⟩
        | _ => cases q1
      | _ => cases q2
end
def rwL (r : Ln) : D := .tup [.str r.1, .str r.2.1, .str r.2.2]
def rwD (es : List Ln) : List D := es.map rwL
def PtD (ps : List Str) (es : List Ln) : D := .lst [.lst (stD ps), .lst (rwD es)]
/-- posts and lanes of a net -/
structure PtOk (ps : List Str) (es : List Ln) : Prop where
  pn : ∀ p ∈ ps, isNm p = true
  pd : ps.Nodup
  en : ∀ r ∈ es, isNm r.1 = true
  ed : (lnN es).Nodup
  st : ∀ r ∈ es, r.2.1 ∈ ps ∧ r.2.2 ∈ ps
  pl : ps.length ≤ 40
  el : es.length ≤ 100
theorem nm_ok {s : Str} (h : isNm s = true) : nmOk (.str s) := Nat.le_trans (isNm_len h) (by decide)
theorem po_ok {K : PySem.W.Frag} {a o d : Addr} {ps : List Str} {es : List Ln} {s : Str} (h : isNm s = true) (hn : ¬ s ∈ ps) : poO K a o d ps es (.str s) = Rt .non (NetC K a o d (ps ++ [s]) es) := by
  unfold poO
  rw [if_neg (by show ¬ isNm s = false; rw [h]; decide)]
  exact if_neg hn
theorem la_ok {K : PySem.W.Frag} {a o d : Addr} {ps : List Str} {es : List Ln} {s st en : Str} (h : isNm s = true) (hn : ¬ s ∈ lnN es) (h1 : st ∈ ps) (h2 : en ∈ ps) : laO K a o d ps es (.str s) st en = Rt .non (NetC K a o d ps (es ++ [(s, st, en)])) := by
  unfold laO
  rw [if_neg (by show ¬ isNm s = false; rw [h]; decide)]
  exact (if_neg hn).trans ((if_neg fun z => z h1).trans (if_neg fun z => z h2))
theorem not_take {α : Type} {xs : List α} (h : xs.Nodup) {i : Nat} {x : α} (hx : xs[i]? = some x) : ¬ x ∈ xs.take i := fun hm => by
  have e : xs = xs.take i ++ x :: xs.drop (i + 1) := by
    obtain ⟨hi, rfl⟩ := List.getElem?_eq_some_iff.mp hx
    rw [List.getElem_cons_drop, List.take_append_drop]
  rw [e, List.nodup_append] at h
  exact h.2.2 x hm x List.mem_cons_self rfl
theorem lnN_take (es : List Ln) (i : Nat) : lnN (es.take i) = (lnN es).take i := List.map_take
/-! ### the net of some words -/
def wnE (ws : List Str) : List Ln := ws.map fun x => (x, iniS x, taiS x)
def wnP (ws : List Str) : List Str := inOrd (ws.map iniS ++ ws.map taiS)
theorem wnE_len (ws : List Str) : (wnE ws).length = ws.length := List.length_map _
theorem wnE_nm (ws : List Str) : lnN (wnE ws) = ws := by
  unfold lnN wnE
  rw [List.map_map]
  exact List.map_id ws
/-- the posts as the law gathers them -/
def gaP (acc : List Str) (ws : List Str) : List Str := ws.foldl (fun a x => addE (addE a (iniS x)) (taiS x)) acc
where addE (a : List Str) (x : Str) : List Str := if x ∈ a then a else a ++ [x]
theorem addE_nd {a : List Str} {x : Str} (h : a.Nodup) : (gaP.addE a x).Nodup := by
  unfold gaP.addE
  split
  · exact h
  · rename_i n
    exact List.nodup_append.mpr ⟨h, List.nodup_cons.mpr ⟨by simp, List.nodup_nil⟩, fun y hy z hz e => n (by rw [List.mem_singleton.mp hz] at e; exact e ▸ hy)⟩
theorem mem_addE {a : List Str} {x y : Str} : y ∈ gaP.addE a x ↔ y ∈ a ∨ y = x := by
  unfold gaP.addE
  split
  · rename_i h
    exact ⟨.inl, fun q => q.elim id fun e => e ▸ h⟩
  · rw [List.mem_append, List.mem_singleton]
theorem addE_len (a : List Str) (x : Str) : (gaP.addE a x).length ≤ a.length + 1 := by
  unfold gaP.addE
  split
  · omega
  · rw [List.length_append]
    exact Nat.le_refl _
theorem gaP_all : ∀ (ws acc : List Str), acc.Nodup → (gaP acc ws).Nodup ∧ (gaP acc ws).length ≤ acc.length + 2 * ws.length ∧ ∀ y, y ∈ gaP acc ws ↔ y ∈ acc ∨ y ∈ ws.map iniS ++ ws.map taiS
  | [], acc, h => ⟨h, Nat.le_refl _, fun y => by simp [gaP]⟩
  | x :: r, acc, h => by
    have ⟨h1, h2, h3⟩ := gaP_all r (gaP.addE (gaP.addE acc (iniS x)) (taiS x)) (addE_nd (addE_nd h))
    have l1 := addE_len (gaP.addE acc (iniS x)) (taiS x)
    have l2 := addE_len acc (iniS x)
    refine ⟨h1, ?_, fun y => (h3 y).trans ?_⟩
    · have : (gaP acc (x :: r)) = gaP (gaP.addE (gaP.addE acc (iniS x)) (taiS x)) r := rfl
      rw [this, List.length_cons]
      omega
    · rw [mem_addE, mem_addE]
      simp only [List.map_cons, List.mem_append, List.mem_cons]
      constructor
      · rintro (((h | h) | h) | h | h)
        · exact .inl h
        · exact .inr (.inl (.inl h))
        · exact .inr (.inr (.inl h))
        · exact .inr (.inl (.inr h))
        · exact .inr (.inr (.inr h))
      · rintro (h | (h | h) | h | h)
        · exact .inl (.inl (.inl h))
        · exact .inl (.inl (.inr h))
        · exact .inr (.inl h)
        · exact .inl (.inr h)
        · exact .inr (.inr h)
theorem gaP_srt (ws : List Str) : srt (gaP [] ws) = wnP ws := by
  have ⟨h1, _, h3⟩ := gaP_all ws [] List.nodup_nil
  exact srt_eq ((List.perm_ext_iff_of_nodup h1 (dedS_nd _)).mpr fun y => (h3 y).trans (by rw [mem_dedS]; simp))
/-- a good word beside a first one -/
def wdB (n : Nat) (d : D) : Bool := match d with
  | .str s => isTx 8 s && (decide (2 ≤ s.length) && decide (s.length = n))
  | _ => false
def lenD : D → Nat
  | .str s => s.length
  | _ => 0
/-- a sequence of good words of n letters -/
structure WdsOk (n : Nat) (ss : List Str) : Prop where
  tx : ∀ x ∈ ss, isTx 8 x = true
  le : ∀ x ∈ ss, x.length = n
  n2 : 2 ≤ n
theorem WdsOk.sub {n : Nat} {ss ts : List Str} (h : WdsOk n ss) (s : ∀ x ∈ ts, x ∈ ss) : WdsOk n ts := ⟨fun x hx => h.tx x (s x hx), fun x hx => h.le x (s x hx), h.n2⟩
theorem tx_sub {m : Nat} {s t : Str} (h : isTx m s = true) (hl : 1 ≤ t.length ∧ t.length ≤ m) (hs : ∀ c ∈ t.cps.toList, c ∈ s.cps.toList) : isTx m t = true := isTx_iff.mpr ⟨hl, fun c hc => (isTx_iff.mp h).2 c (hs c hc)⟩
theorem ini_tx {s : Str} (h : isTx 8 s = true) (h2 : 2 ≤ s.length) : isTx 8 (iniS s) = true := tx_sub h (by have := (isTx_iff.mp h).1; rw [iniS_len]; omega) fun c hc => by rw [iniS_cps] at hc; exact List.dropLast_subset _ hc
theorem tai_tx {s : Str} (h : isTx 8 s = true) (h2 : 2 ≤ s.length) : isTx 8 (taiS s) = true := tx_sub h (by have := (isTx_iff.mp h).1; rw [taiS_len]; omega) fun c hc => by rw [taiS_cps] at hc; exact List.mem_of_mem_drop hc
theorem mem_wnP {ws : List Str} {p : Str} : p ∈ wnP ws ↔ ∃ x ∈ ws, p = iniS x ∨ p = taiS x := by
  unfold wnP
  rw [mem_inOrd, List.mem_append, List.mem_map, List.mem_map]
  constructor
  · rintro (⟨x, h, rfl⟩ | ⟨x, h, rfl⟩)
    · exact ⟨x, h, .inl rfl⟩
    · exact ⟨x, h, .inr rfl⟩
  · rintro ⟨x, h, rfl | rfl⟩
    · exact .inl ⟨x, h, rfl⟩
    · exact .inr ⟨x, h, rfl⟩
/-- the net of good words, none twice -/
theorem wn_ok {n : Nat} {ws : List Str} (h : WdsOk n ws) (nd : ws.Nodup) (hp : (wnP ws).length ≤ 40) (hl : ws.length ≤ 100) : PtOk (wnP ws) (wnE ws) where
  pn := fun p hp => by
    obtain ⟨x, hx, e⟩ := mem_wnP.mp hp
    have tx := h.tx x hx
    have l := (isTx_iff.mp tx).1
    have l2 := h.le x hx
    have := h.n2
    rcases e with rfl | rfl
    · exact tx_nm (ini_tx tx (by omega)) (by rw [iniS_len]; omega)
    · exact tx_nm (tai_tx tx (by omega)) (by rw [taiS_len]; omega)
  pd := inOrd_nd _
  en := fun r hr => by
    obtain ⟨x, hx, rfl⟩ := List.mem_map.mp hr
    exact tx_nm (h.tx x hx) (isTx_iff.mp (h.tx x hx)).1.2
  ed := by rw [wnE_nm]; exact nd
  st := fun r hr => by
    obtain ⟨x, hx, rfl⟩ := List.mem_map.mp hr
    exact ⟨mem_wnP.mpr ⟨x, hx, .inl rfl⟩, mem_wnP.mpr ⟨x, hx, .inr rfl⟩⟩
  pl := hp
  el := by rw [wnE_len]; exact hl
/-- how window_net ends -/
def wnO (K : PySem.W.Frag) (ds : List D) (ka : Cells) : Oc := match ds, ds.find? (fun d => !wdB (lenD (ds.headD .non)) d) with
  | [], _ => X0 (He.ga K "EmptyWalk") ka
  | _ :: _, some d => Xt (He.ga K "BadWord") [("word", d)] ka
  | _ :: _, none => fun o' k => ∃ a o d, o' = .ret (.adr a) ∧ k = ka ++ NetC K a o d (wnP (inOrd (wnO.strsOf ds))) (wnE (inOrd (wnO.strsOf ds)))
where strsOf : List D → List Str
  | [] => []
  | .str s :: r => s :: strsOf r
  | _ :: r => strsOf r
theorem strsOf_stD : ∀ ss : List Str, wnO.strsOf (stD ss) = ss
  | [] => rfl
  | s :: r => congrArg (s :: ·) (strsOf_stD r)
theorem wnO_bad {K : PySem.W.Frag} {ds : List D} {d : D} {ka : Cells} (h : ds.find? (fun d => !wdB (lenD (ds.headD .non)) d) = some d) : wnO K ds ka = Xt (He.ga K "BadWord") [("word", d)] ka := by
  unfold wnO
  rw [h]
  cases ds with
  | nil => cases h
  | cons x r => rfl
theorem wds_none {n : Nat} {ss : List Str} (h : WdsOk n ss) : (stD ss).find? (fun d => !wdB (lenD ((stD ss).headD .non)) d) = none := find_none (p := fun d => !wdB (lenD ((stD ss).headD .non)) d) fun d hd => by
  obtain ⟨x, hx, rfl⟩ := List.mem_map.mp hd
  have : lenD ((stD ss).headD .non) = n := by
    cases ss with
    | nil => cases hx
    | cons y r => exact h.le y List.mem_cons_self
  rw [this]
  show (!(isTx 8 x && (decide (2 ≤ x.length) && decide (x.length = n)))) = false
  have := h.n2
  rw [h.tx x hx, h.le x hx, decide_eq_true this]
  simp
theorem wnO_ok {K : PySem.W.Frag} {n : Nat} {ss : List Str} {ka : Cells} (h0 : ss ≠ []) (h : WdsOk n ss) : wnO K (stD ss) ka = fun o' k => ∃ a o d, o' = .ret (.adr a) ∧ k = ka ++ NetC K a o d (wnP (inOrd ss)) (wnE (inOrd ss)) := by
  unfold wnO
  rw [wds_none h, strsOf_stD]
  cases ss with
  | nil => exact absurd rfl h0
  | cons y r => rfl
/-- a list without bad words -/
theorem wds_of {ds : List D} (h0 : ds ≠ []) (h : ∀ d ∈ ds, wdB (lenD (ds.headD .non)) d = true) : ∃ ss, ds = stD ss ∧ WdsOk (lenD (ds.headD .non)) ss := by
  generalize lenD (ds.headD .non) = n at h
  have all : ∀ d ∈ ds, ∃ s, d = .str s ∧ isTx 8 s = true ∧ 2 ≤ s.length ∧ s.length = n := fun d hd => by
    have := h d hd
    cases d with
    | str s =>
      have t : (isTx 8 s && (decide (2 ≤ s.length) && decide (s.length = n))) = true := this
      rw [Bool.and_eq_true, Bool.and_eq_true, decide_eq_true_eq, decide_eq_true_eq] at t
      exact ⟨s, rfl, t⟩
    | _ => cases this
  have n2 : 2 ≤ n := by
    cases ds with
    | nil => exact absurd rfl h0
    | cons d r =>
      obtain ⟨s, _, _, a, b⟩ := all d List.mem_cons_self
      omega
  refine ⟨ds.map fun d => match d with | .str s => s | _ => "", ?_, ⟨fun x hx => ?_, fun x hx => ?_, n2⟩⟩
  · unfold stD
    rw [List.map_map]
    exact (List.map_id ds).symm.trans (List.map_congr_left fun d hd => by
      obtain ⟨s, rfl, _⟩ := all d hd
      rfl)
  · obtain ⟨d, hd, rfl⟩ := List.mem_map.mp hx
    obtain ⟨s, rfl, a, _⟩ := all d hd
    exact a
  · obtain ⟨d, hd, rfl⟩ := List.mem_map.mp hx
    obtain ⟨s, rfl, _, _, a⟩ := all d hd
    exact a
def ct_window_net (K : PySem.W.Frag) : Ct := Ct1 fun a ka out => ∃ t ds, Lk ka a t ds false ∧ ka = [] ∧ (∀ d ∈ ds, nmOk d) ∧ ds.length ≤ 100 ∧ (∀ n ss, ds = stD ss → WdsOk n ss → (inOrd ss).length < 64 ∧ (wnP (inOrd ss)).length ≤ 40) ∧ out = wnO K ds []
section
variable {P : Program} {w : World} {K : PySem.W.Frag} {mg : Str → Option Value} {base : Heap}
theorem ok_window_net (T : Tx K mg) (F_Net___init : FnE P w K mg base 4 (He.ma K (He.ga K "Net") "__init__") ["self", "order", "ends_by_lane"] [.ref (He.dflAt ("Net", some "__init__") 0 K), .non] (ct_Net___init K)) (F_Net_post : Fn P w K mg base 6 (He.ma K (He.ga K "Net") "post") ["self", "name"] (ct_Net_post K)) (F_Net_lane : Fn P w K mg base 6 (He.ma K (He.ga K "Net") "lane") ["self", "name", "start", "end"] (ct_Net_lane K)) (F_is_text : Fn P w K mg base 4 (He.ga K "is_text") ["text", "most"] (ct_is_text K)) (Z_BadWord : Xn P w K mg base (He.ga K "BadWord") "word") : Fn P w K mg base 8 (He.ga K "window_net") ["words"] (ct_window_net K) := by
  obtain ⟨fd, F⟩ := T.d_window_net
  refine fn_ok F sc_window_net (fun _ _ _ _ _ _ us hl => match us, hl with | [_], _ => rfl) ct1_len (fun cdv A outer s H E hr => ⟨_, (pss_cons (ps_if (pt_cmpR (op_eqP (by have := (hr).units; exact this)) (pe_callB call_lenU rfl T.n_len (by decide +kernel) (pa_cons (pv 0) pa_nil)) pe_int (nomark _))
      (pss_one (ps_raise rfl (takes_of rfl rfl rfl rfl) (pmk_zero PySem.F.excBase_ValueError T.x0_EmptyWalk.1 T.g_EmptyWalk.1 T.x0_EmptyWalk.2.1 (raises_own T.x0_EmptyWalk.2.2.1 T.x0_EmptyWalk.2.2.2) rfl)))
      pss_nil)
      (pss_cons (ps_for (passes_of rfl) rfl (pi_seq (pv 0)) (pg_name (i := 1) sc_window_net.nd rfl (by first | exact Or.inl rfl | exact Or.inr rfl)) (pss_one (ps_if (PW.pt (pw_or (pt_not (pt_val (pe_call (F_is_text.up (by decide)).ok hr rfl T.g_is_text.1 T.g_is_text.2 (F_is_text.up (by decide)).bn .nil (pass_own rfl rfl rfl rfl) (pa_cons (pv 1) (pa_cons pe_int pa_nil))))) (pw_or (pt_cmpR op_lt (pe_callB call_lenU rfl T.n_len (by decide +kernel) (pa_cons (pv 1) pa_nil)) pe_int (nomark _)) (pw_or1 (pt_cmpR (op_neP (by have := (hr).units; exact this)) (pe_callB call_lenU rfl T.n_len (by decide +kernel) (pa_cons (pv 1) pa_nil)) (pe_callB call_lenU rfl T.n_len (by decide +kernel) (pa_cons (pe_ix ix_seq (pv 0) pe_int fun _ _ => rfl) pa_nil)) (nomark _))))))
      (pss_one (ps_raise rfl (takes_of rfl rfl rfl rfl) (pmk_oex Z_BadWord.xc.oex Z_BadWord.all.1 Z_BadWord.all.2.1 Z_BadWord.all.2.2.1 (hr.mono (by decide)) Z_BadWord.all.2.2.2 .nil passes_no rfl T.g_BadWord.1 (pa_cons (pv 1) pa_nil))))
      pss_nil)))
      (pss_cons (ps_set (i := 2) sc_window_net.nd rfl (by first | exact Or.inl rfl | exact Or.inr rfl) (pe_sset rfl rfl T.n_sorted rfl T.n_set (pv 0)))
      (pss_cons (ps_set (i := 3) sc_window_net.nd rfl (by first | exact Or.inl rfl | exact Or.inr rfl) (pe_make0 T.mk_Net (F_Net___init.d.up (by decide)).ok hr rfl T.g_Net.1 (F_Net___init.d.up (by decide)).bn (F_Net___init.d.up (by decide)).dv (pass_own rfl rfl rfl rfl)))
      (pss_cons (ps_for (passes_of rfl) rfl (pi_seq (pe_sset rfl rfl T.n_sorted rfl T.n_set (pe_op op_addU (pe_lc (te := (tSl (rSlU K) (tVar 1) tNoPart (tPart (tUn (rU fun i => .int (-i)) (tC (.int 1)))))) (tt := tYes) (own := [("word", 1)]) rfl sc_window_net.nd (pi_seq (pv 2)) (blk_ok ["words", "word", "lanes", "net", "post"] (defScope s_window_net) rfl rfl (by decide +kernel)) (fun _ _ _ _ _ => (pg_name (i := 1) sc_window_net.nd rfl (by first | exact Or.inl rfl | exact Or.inr rfl))) (fun _ _ _ _ _ => pts_nil) (fun _ _ _ _ _ => (pe_slice sl_U (pv 1) po_none (po_some (pe_un un_neg pe_int))))) (pe_lc (te := (tSl (rSlU K) (tVar 1) (tPart (tC (.int 1))) tNoPart)) (tt := tYes) (own := [("word", 1)]) rfl sc_window_net.nd (pi_seq (pv 2)) (blk_ok ["words", "word", "lanes", "net", "post"] (defScope s_window_net) rfl rfl (by decide +kernel)) (fun _ _ _ _ _ => (pg_name (i := 1) sc_window_net.nd rfl (by first | exact Or.inl rfl | exact Or.inr rfl))) (fun _ _ _ _ _ => pts_nil) (fun _ _ _ _ _ => (pe_slice sl_U (pv 1) (po_some pe_int) po_none)))))) (pg_name (i := 4) sc_window_net.nd rfl (by first | exact Or.inl rfl | exact Or.inr rfl)) (pss_one (ps_expr (pe_meth (pv 3) T.cl_Net T.me_Net_post (F_Net_post.up (by decide)).ok hr (F_Net_post.up (by decide)).bn .nil (pass_own rfl rfl rfl rfl) (pa_cons (pv 4) pa_nil)))))
      (pss_cons (ps_for (passes_of rfl) rfl (pi_seq (pv 2)) (pg_name (i := 1) sc_window_net.nd rfl (by first | exact Or.inl rfl | exact Or.inr rfl)) (pss_one (ps_expr (pe_meth (pv 3) T.cl_Net T.me_Net_lane (F_Net_lane.up (by decide)).ok hr (F_Net_lane.up (by decide)).bn .nil (pass_own rfl rfl rfl rfl) (pa_cons (pv 1) (pa_cons (pe_slice sl_U (pv 1) po_none (po_some (pe_un un_neg pe_int))) (pa_cons (pe_slice sl_U (pv 1) (po_some pe_int) po_none) pa_nil)))))))
      (pss_one (ps_ret (pv 3))))))))), fun ws ka out B F0 Q hC hR hX => ?_⟩)
  obtain ⟨a, rfl, t, ds, l, rfl, hd, hz, hw, rfl⟩ := hC
  by_cases h0 : ds = []
  · subst h0
    exact q_when ((et_test (ev_eqI (ev_len (ev_var rfl) l) ev_int)).to (b := true) rfl) (fun _ => g_raise0 hX ⟨rfl, rfl⟩) (fun z => by cases z)
  have hpos : 0 < ds.length := List.length_pos_iff.mpr h0
  refine q_when ((et_test (ev_eqI (ev_len (ev_var rfl) l) ev_int)).to (b := false) (beq_eq_false_iff_ne.mpr (by omega))) (fun z => by cases z) (fun _ => ?_)
  have h1 : atI ds 0 = some (ds.headD .non) := by
    cases ds with
    | nil => exact absurd rfl h0
    | cons d r => exact at0
  refine q_forn (ei_seq (ev_var rfl) l) (fun i ro2 ka2 => (∃ v, ro2 = [some a, v, none, none, none]) ∧ ka2 = [] ∧ ∀ d ∈ ds.take i, wdB (lenD (ds.headD .non)) d = true) ⟨⟨none, rfl⟩, rfl, fun d h => by simp at h⟩ (fun i ro2 ka2 ⟨_, e, _⟩ => e ▸ l.stay) (fun i w2 ro2 ka2 ta' hw2 ⟨⟨v, e1⟩, e2, e3⟩ => ?_) (fun ro2 ka2 ta' ⟨⟨v, e1⟩, e2, e3⟩ _ => ?_)
  · subst e1 e2
    rw [List.getElem?_map] at hw2
    obtain ⟨d, hd0, rfl⟩ := Option.map_eq_some_iff.mp hw2
    have hm : d ∈ ds := List.mem_of_getElem? hd0
    have bad : wdB (lenD (ds.headD .non)) d = false → RxOk K B F0 (Xt (He.ga K "BadWord") [("word", d)] []) E := fun hb => by
      rw [wnO_bad (find_first (p := fun d => !wdB (lenD (ds.headD .non)) d) (fun e he => by rw [e3 e he]; rfl) hd0 (by rw [hb]; rfl))] at hX
      exact hX
    cases q : isTxD 8 d with
    | false =>
      refine g_if (b := true) (k1 := []) (et_or1 ((et_not (et_B (ev_callP (ea2 (ev_var rfl) ev_int) ⟨_, _, rfl, d, 8, rfl, hd d hm, rfl, rfl, rfl⟩))).to (by rw [q]; rfl))) (fun _ => g_raise1 (bad ?_) (ea1 (ev_var rfl)) Z_BadWord.xc.oex Z_BadWord.no ⟨rfl, rfl⟩) (fun z => by cases z)
      cases d with
      | str s =>
        show (isTx 8 s && _) = false
        rw [show isTx 8 s = false from q]
        rfl
      | _ => rfl
    | true =>
      obtain ⟨s, rfl⟩ : ∃ s, d = .str s := by
        cases d with
        | str s => exact ⟨s, rfl⟩
        | _ => cases q
      obtain ⟨z, ez⟩ : ∃ z, ds.headD .non = .str z := by
        cases i with
        | zero =>
          cases ds with
          | nil => exact absurd rfl h0
          | cons d r =>
            have : d = .str s := by simpa using hd0
            exact ⟨s, this⟩
        | succ i =>
          have hm1 : ds.headD .non ∈ ds.take (i + 1) := by
            cases ds with
            | nil => exact absurd rfl h0
            | cons d r => exact List.mem_cons_self
          have := e3 _ hm1
          cases q2 : ds.headD .non with
          | str z => exact ⟨z, rfl⟩
          | _ => rw [q2] at this; cases this
      have zl : z.length ≤ 1000 := by
        have hm1 : ds.headD .non ∈ ds := by
          cases ds with
          | nil => exact absurd rfl h0
          | cons d r => exact List.mem_cons_self
        have := hd _ hm1
        rw [ez] at this
        exact this
      have sl : s.length ≤ 1000 := hd _ hm
      rw [ez] at h1 e3 bad
      refine g_if (k1 := []) (et_or ((et_not (et_B (ev_callP (ea2 (ev_var rfl) ev_int) ⟨_, _, rfl, .str s, 8, rfl, sl, rfl, rfl, rfl⟩))).to (b := false) (by rw [q]; rfl)) (fun _ => et_or (et_test (ev_lt (ev_lenS (ev_var rfl) (by omega)) ev_int)) (fun _ => et_test (ev_neI (ev_lenS (ev_var rfl) (by omega)) (ev_lenS (s := z) (ev_ixV (ev_var rfl) ev_int l h1) (by omega)))))) (fun hb => g_raise1 (bad ?_) (ea1 (ev_var rfl)) Z_BadWord.xc.oex Z_BadWord.no ⟨rfl, rfl⟩) (fun hb => g_next (g_jp ⟨⟨_, rfl⟩, rfl, fun e he => ?_⟩))
      · show (isTx 8 s && (decide (2 ≤ s.length) && decide (s.length = z.length))) = false
        rw [Bool.false_or, Bool.or_eq_true, decide_eq_true_eq, Bool.not_eq_true', beq_eq_false_iff_ne] at hb
        rw [show isTx 8 s = true from q, Bool.true_and, Bool.and_eq_false_iff, decide_eq_false_iff_not, decide_eq_false_iff_not]
        omega
      · rw [ez]
        rw [take_succ_some hd0] at he
        rcases List.mem_append.mp he with he | he
        · exact e3 e he
        · rw [List.mem_singleton.mp he]
          show (isTx 8 s && (decide (2 ≤ s.length) && decide (s.length = z.length))) = true
          rw [Bool.false_or, Bool.or_eq_false_iff, decide_eq_false_iff_not, Bool.not_eq_false', beq_iff_eq] at hb
          rw [show isTx 8 s = true from q, Bool.true_and, Bool.and_eq_true, decide_eq_true_eq, decide_eq_true_eq]
          omega
  · subst e1 e2
    rw [List.length_map, List.take_length] at e3
    obtain ⟨ss, rfl, hW⟩ := wds_of h0 e3
    have hs0 : ss ≠ [] := fun z => h0 (by rw [z]; rfl)
    obtain ⟨h64, hpz⟩ := hw _ ss rfl hW
    rw [wnO_ok hs0 hW] at hR hX
    rw [stD_len] at hz
    have W2 := hW.sub (ts := inOrd ss) fun x hx => mem_inOrd.mp hx
    have hok := wn_ok W2 (inOrd_nd ss) hpz (by omega)
    generalize hws : inOrd ss = ws at *
    have lz : ∀ x ∈ ws, x.length ≤ 8 := fun x hx => (isTx_iff.mp (W2.tx x hx)).1.2
    refine q_asg (w := .val (.lst (stD ws))) ((evn_sset (b := false) (t := t) (ev_var rfl) l (by omega) (by rw [once_len, hws]; exact h64)).lst.to (by rw [once_inOrd, hws])) ?_
    refine q_asgR (evr_make (P := fun w k => ∃ a o d, w = .val (.adr a) ∧ k = NetC K a o d [] []) ea_nil (dv_cons (wok_t0 T.t0_Net___init) (dv_cons (w := .val .non) (fun _ _ => rfl) dv_nil)) fun a => ⟨_, ⟨_, _, _, rfl, a, true, false, [], [], rfl, rfl, .vt, Nat.zero_le _, Nat.zero_le _, List.nodup_nil, .inl ⟨rfl, rfl⟩, rfl⟩, fun o' k ⟨o, d, h1, h2⟩ => ⟨h1, a, o, d, rfl, h2⟩⟩) fun w k1 ⟨n, o, d, h1, h2⟩ => ?_
    subst h1 h2
    have part : ∀ {te : TE} {f : Str → Str} {v3 v4 : Option W}, (∀ x ∈ ws, EvD K te [some a, some (.val (.str x)), some (.val (.lst (stD ws))), v3, v4] (NetC K n o d [] []) (.val (.str (f x))) (NetC K n o d [] [])) → EvD K (tLc (iSeq K (tVar 2)) (gName 1) tYes te [1]) [some a, v, some (.val (.lst (stD ws))), v3, v4] (NetC K n o d [] []) (.val (.lst (stD (ws.map f)))) (NetC K n o d [] []) := fun {te f v3 v4} h => by
      have := (evn_map (K := K) (xs := ws) (g := fun x => W.val (.str x)) (f := fun x => D.str (f x)) (C := fun _ => True) (wi := iSeq K (tVar 2)) (j := 1) (vs := [1]) (ro := [some a, v, some (.val (.lst (stD ws))), v3, v4]) (ka := NetC K n o d [] []) (ei_strs (ev_var rfl)) (by decide) (by omega) ⟨trivial, fun _ => trivial⟩ h).lst
      have e : (ws.map fun x => D.str (f x)) = stD (ws.map f) := by
        unfold stD
        rw [List.map_map]
        rfl
      rwa [e] at this
    have lp : (inOrd (ws.map iniS ++ ws.map taiS)).length ≤ 40 := hpz
    refine q_forn (ei_strs (ss := wnP ws) ((evn_sset (b := false) (t := false) (ss := ws.map iniS ++ ws.map taiS) ((ev_catL (part (v3 := some (.val (.adr n))) (v4 := none) (f := iniS) fun x hx => ev_slS (ev_var rfl) eo_none (eo_some (ev_un ev_int ru_neg)) (by have := lz x hx; omega)) (part (v3 := some (.val (.adr n))) (v4 := none) (f := taiS) fun x hx => ev_slS (ev_var rfl) (eo_some ev_int) eo_none (by have := lz x hx; omega)) (by rw [stD_len, stD_len, List.length_map, List.length_map]; omega)).to (by rw [stD_app])) .vl (by rw [List.length_append, List.length_map, List.length_map]; omega) (by rw [once_len]; omega)).lst.to (by rw [once_inOrd]; rfl))) (fun i ro ka => ∃ v v4, ro = [some a, v, some (.val (.lst (stD ws))), some (.val (.adr n)), v4] ∧ ka = NetC K n o d ((wnP ws).take i) []) ⟨v, none, rfl, rfl⟩ (fun i ro ka _ => trivial) (fun i w ro2 ka2 ta' hw3 ⟨v, v4, e1, e2⟩ => ?_) (fun ro2 ka2 ta' ⟨v, v4, e1, e2⟩ _ => ?_)
    · subst e1 e2
      rw [List.getElem?_map] at hw3
      obtain ⟨p, hp, rfl⟩ := Option.map_eq_some_iff.mp hw3
      have hm := List.mem_of_getElem? hp
      refine g_drop (ev_methA (k2 := NetC K n o d ((wnP ws).take i) []) (k3 := NetC K n o d ((wnP ws).take i ++ [p]) []) (d := .non) [] (ev_var rfl) (.c 0 rfl) rfl (ea1 (ev_var rfl)) ⟨_, _, rfl, n, o, d, (wnP ws).take i, [], .str p, rfl, rfl, nm_ok (hok.pn p hm), ?_, rfl, (po_ok (hok.pn p hm) (not_take hok.pd hp)).symm⟩) (g_jp ⟨_, _, rfl, ?_⟩)
      · have := hok.pl
        rw [List.length_take]
        omega
      · rw [take_succ_some hp]
        rfl
    subst e1 e2
    rw [List.length_map, List.take_length]
    refine q_forn (ei_strs (ev_var rfl)) (fun i ro ka => ∃ v v4, ro = [some a, v, some (.val (.lst (stD ws))), some (.val (.adr n)), v4] ∧ ka = NetC K n o d (wnP ws) ((wnE ws).take i)) ⟨v, v4, rfl, rfl⟩ (fun i ro ka _ => trivial) (fun i w ro2 ka2 ta' hw3 ⟨v, v4, e1, e2⟩ => ?_) (fun ro2 ka2 ta' ⟨v, v4, e1, e2⟩ _ => ?_)
    · subst e1 e2
      rw [List.getElem?_map] at hw3
      obtain ⟨x, hx, rfl⟩ := Option.map_eq_some_iff.mp hw3
      have hm := List.mem_of_getElem? hx
      have hr2 : (wnE ws)[i]? = some (x, iniS x, taiS x) := by
        unfold wnE
        rw [List.getElem?_map, hx]
        rfl
      have hm2 := List.mem_of_getElem? hr2
      have xl := lz x hm
      refine g_drop (ev_methA (k2 := NetC K n o d (wnP ws) ((wnE ws).take i)) (k3 := NetC K n o d (wnP ws) ((wnE ws).take i ++ [(x, iniS x, taiS x)])) (d := .non) [] (ev_var rfl) (.c 0 rfl) rfl (ea3 (ev_var rfl) (ev_slS (ev_var rfl) eo_none (eo_some (ev_un ev_int ru_neg)) (by omega)) (ev_slS (ev_var rfl) (eo_some ev_int) eo_none (by omega))) ⟨_, _, _, _, rfl, n, o, d, wnP ws, (wnE ws).take i, .str x, iniS x, taiS x, rfl, rfl, nm_ok (hok.en _ hm2), rfl, rfl, ?_, rfl, (la_ok (hok.en _ hm2) ?_ (hok.st _ hm2).1 (hok.st _ hm2).2).symm⟩) (g_jp ⟨_, _, rfl, ?_⟩)
      · have := hok.el
        rw [List.length_take]
        omega
      · rw [lnN_take]
        exact not_take hok.ed (lnN_at hr2)
      · rw [take_succ_some hr2]
        rfl
    · subst e1 e2
      rw [List.length_map, ← wnE_len ws, List.take_length]
      exact g_ret hR (ev_var rfl) ⟨n, o, d, rfl, rfl⟩
end
/-- their net has as many posts as lanes -/
def knB (t : Str) (k : Nat) : Bool := decide ((wnP (inOrd (wins t k))).length = (inOrd (wins t k)).length)
/-- the least such length -/
def knD (t : Str) : D := match (List.range 7).find? (fun i => knB t (2 + i)) with
  | some i => .int (2 + (i : Int))
  | none => .non
def knO (K : PySem.W.Frag) (d : D) : Oc := if isTxD 40 d = false then Xt (He.ga K "BadWord") [("word", d)] [] else match d with
  | .str s => Rt (knD s) []
  | _ => fun _ _ => True
theorem knO_bad {K : PySem.W.Frag} {d : D} (h : isTxD 40 d = false) : knO K d = Xt (He.ga K "BadWord") [("word", d)] [] := if_pos h
theorem knO_ok {K : PySem.W.Frag} {s : Str} (h : isTx 40 s = true) : knO K (.str s) = Rt (knD s) [] := if_neg (by show ¬ isTx 40 s = false; rw [h]; decide)
theorem knD_some {t : Str} {i : Nat} (hi : i < 7) (h : knB t (2 + i) = true) (no : ∀ j, j < i → knB t (2 + j) = false) : knD t = .int (2 + (i : Int)) := by
  unfold knD
  rw [find_first (p := fun i => knB t (2 + i)) (ds := List.range 7) (i := i) (d := i) (fun e he => ?_) (List.getElem?_range hi) h]
  rw [List.take_range] at he
  exact no e (by have := List.mem_range.mp he; omega)
theorem knD_none {t : Str} (no : ∀ j, j < 7 → knB t (2 + j) = false) : knD t = .non := by
  unfold knD
  rw [find_none (p := fun i => knB t (2 + i)) (ds := List.range 7) fun e he => no e (List.mem_range.mp he)]
theorem knD_case (t : Str) : knD t = .non ∨ ∃ i, i < 7 ∧ knB t (2 + i) = true ∧ knD t = .int (2 + (i : Int)) := by
  unfold knD
  cases h : (List.range 7).find? (fun i => knB t (2 + i)) with
  | none => exact .inl rfl
  | some i => exact .inr ⟨i, List.mem_range.mp (List.mem_of_find?_eq_some h), by have := List.find?_some (p := fun i => knB t (2 + i)) h; exact this, rfl⟩
/-- the posts of the windows of a text are no more than its places -/
theorem posts_len (t : Str) (k : Nat) : (wnP (inOrd (wins t (k + 1)))).length ≤ t.length := by
  have := nd_sub (inOrd_nd _) (xs := wnP (inOrd (wins t (k + 1)))) (ys := wins t k) fun p hp => by
    obtain ⟨x, hx, e⟩ := mem_wnP.mp hp
    obtain ⟨i, hi, rfl⟩ := mem_wins.mp (mem_inOrd.mp hx)
    rw [ini_win, tai_win] at e
    rcases e with rfl | rfl <;> exact win_mem (by omega) _ _
  rwa [wins_len] at this
theorem tx_up {m n : Nat} {s : Str} (h : isTx m s = true) (hm : m ≤ n) : isTx n s = true := isTx_iff.mpr ⟨⟨(isTx_iff.mp h).1.1, Nat.le_trans (isTx_iff.mp h).1.2 hm⟩, (isTx_iff.mp h).2⟩
/-- the windows of a text as words -/
theorem wins_wds {m k : Nat} {s : Str} (h : isTx m s = true) (h2 : 2 ≤ k) (h8 : k ≤ 8) : WdsOk k (wins s k) := ⟨fun x hx => by obtain ⟨i, _, rfl⟩ := mem_wins.mp hx; exact win_tx h (by omega) h8, fun x hx => by obtain ⟨i, _, rfl⟩ := mem_wins.mp hx; exact winS_len _ _ _, h2⟩
theorem ord_wds {k : Nat} {s : Str} (h : isTx 40 s = true) (h2 : 2 ≤ k) (h8 : k ≤ 8) : WdsOk k (inOrd (wins s k)) ∧ (inOrd (wins s k)).length ≤ 40 ∧ (wnP (inOrd (wins s k))).length ≤ 40 ∧ inOrd (wins s k) ≠ [] := by
  have l := (isTx_iff.mp h).1
  have a := inOrd_len (wins s k)
  rw [wins_len] at a
  obtain ⟨j, rfl⟩ : ∃ j, k = j + 1 := ⟨k - 1, by omega⟩
  have b := posts_len s j
  refine ⟨(wins_wds h h2 h8).sub fun y hy => mem_inOrd.mp hy, by omega, by omega, fun z => ?_⟩
  have := mem_inOrd.mpr (win_mem l.1 (j + 1) 0)
  rw [z] at this
  cases this
def ct_known_by (K : PySem.W.Frag) : Ct := Ct1 fun a ka out => ∃ d, a = .val d ∧ nmOk d ∧ ka = [] ∧ out = knO K d
section
variable {P : Program} {w : World} {K : PySem.W.Frag} {mg : Str → Option Value} {base : Heap}
theorem ok_known_by (T : Tx K mg) (F_Net_posts : Fn P w K mg base 4 (pga K (He.ga K "Net") "posts") ["self"] (ct_Net_posts K)) (F_Net_lanes : Fn P w K mg base 4 (pga K (He.ga K "Net") "lanes") ["self"] (ct_Net_lanes K)) (F_is_text : Fn P w K mg base 4 (He.ga K "is_text") ["text", "most"] (ct_is_text K)) (F_windows : Fn P w K mg base 8 (He.ga K "windows") ["text", "k"] (ct_windows K)) (F_window_net : Fn P w K mg base 8 (He.ga K "window_net") ["words"] (ct_window_net K)) (Z_BadWord : Xn P w K mg base (He.ga K "BadWord") "word") : Fn P w K mg base 10 (He.ga K "known_by") ["text"] (ct_known_by K) := by
  obtain ⟨fd, F⟩ := T.d_known_by
  refine fn_ok F sc_known_by (fun _ _ _ _ _ _ us hl => match us, hl with | [_], _ => rfl) ct1_len (fun cdv A outer s H E hr => ⟨_, (pss_cons (ps_if (pt_not (pt_val (pe_call (F_is_text.up (by decide)).ok hr rfl T.g_is_text.1 T.g_is_text.2 (F_is_text.up (by decide)).bn .nil (pass_own rfl rfl rfl rfl) (pa_cons (pv 0) (pa_cons pe_int pa_nil)))))
      (pss_one (ps_raise rfl (takes_of rfl rfl rfl rfl) (pmk_oex Z_BadWord.xc.oex Z_BadWord.all.1 Z_BadWord.all.2.1 Z_BadWord.all.2.2.1 (hr.mono (by decide)) Z_BadWord.all.2.2.2 .nil passes_no rfl T.g_BadWord.1 (pa_cons (pv 0) pa_nil))))
      pss_nil)
      (pss_cons (ps_for (passes_of rfl) rfl (pi_range2 rfl T.n_range (pa_cons pe_int (pa_cons pe_int pa_nil))) (pg_name (i := 1) sc_known_by.nd rfl (by first | exact Or.inl rfl | exact Or.inr rfl)) (pss_cons (ps_set (i := 2) sc_known_by.nd rfl (by first | exact Or.inl rfl | exact Or.inr rfl) (pe_call (F_window_net.up (by decide)).ok hr rfl T.g_window_net.1 T.g_window_net.2 (F_window_net.up (by decide)).bn .nil (pass_own rfl rfl rfl rfl) (pa_cons (pe_call (F_windows.up (by decide)).ok hr rfl T.g_windows.1 T.g_windows.2 (F_windows.up (by decide)).bn .nil (pass_own rfl rfl rfl rfl) (pa_cons (pv 0) (pa_cons (pv 1) pa_nil))) pa_nil)))
      (pss_one (ps_if (pt_cmpR (op_eqP (by have := (hr).units; exact this)) (pe_callB call_lenU rfl T.n_len (by decide +kernel) (pa_cons (pe_prop (pv 2) T.cl_Net T.pr_Net_posts (F_Net_posts.up (by decide)).ok hr (F_Net_posts.up (by decide)).bn .nil passes_no rfl) pa_nil)) (pe_callB call_lenU rfl T.n_len (by decide +kernel) (pa_cons (pe_prop (pv 2) T.cl_Net T.pr_Net_lanes (F_Net_lanes.up (by decide)).ok hr (F_Net_lanes.up (by decide)).bn .nil passes_no rfl) pa_nil)) (nomark _))
      (pss_one (ps_ret (pv 1)))
      pss_nil))))
      (pss_one (ps_ret pe_non)))), fun ws ka out B F0 Q hC hR hX => ?_⟩)
  obtain ⟨a, rfl, d, rfl, hd, rfl, rfl⟩ := hC
  cases q1 : isTxD 40 d with
  | false =>
    refine q_when (b := true) ((et_not (et_B (ev_callP (ea2 (ev_var rfl) ev_int) ⟨_, _, rfl, d, 40, rfl, hd, rfl, rfl, rfl⟩))).to (by rw [q1]; rfl)) (fun _ => g_raise1 hX (ea1 (ev_var rfl)) Z_BadWord.xc.oex Z_BadWord.no ?_) (fun z => by cases z)
    rw [knO_bad q1]
    exact ⟨rfl, rfl⟩
  | true =>
    cases d with
    | str t =>
      rw [knO_ok q1] at hR
      have tl := (isTx_iff.mp q1).1
      refine q_when (b := false) ((et_not (et_B (ev_callP (ea2 (ev_var rfl) ev_int) ⟨_, _, rfl, .str t, 40, rfl, hd, rfl, rfl, rfl⟩))).to (by rw [q1]; rfl)) (fun z => by cases z) (fun _ => ?_)
      refine q_forn (ei_range2 (ea2 ev_int ev_int) (by decide) (by decide) (by decide) (by decide)) (fun i ro ka => ∃ v1 v2, ro = [some (.val (.str t)), v1, v2] ∧ ka = [] ∧ ∀ j, j < i → knB t (2 + j) = false) ⟨none, none, rfl, rfl, fun j h => by omega⟩ (fun _ _ _ _ => trivial) (fun i w ro2 ka2 ta2 hw ⟨v1, v2, e1, e2, e3⟩ => ?_) (fun ro2 ka2 ta2 ⟨v1, v2, e1, e2, e3⟩ _ => ?_)
      · subst e1 e2
        rw [List.getElem?_map] at hw
        obtain ⟨i', hi', rfl⟩ := Option.map_eq_some_iff.mp hw
        obtain ⟨hi1, hi2⟩ := List.getElem?_eq_some_iff.mp hi'
        rw [List.getElem_range] at hi2
        rw [List.length_range] at hi1
        have hi1 : i < 7 := hi1
        subst hi2
        obtain ⟨W, dl, pl, ne⟩ := ord_wds q1 (k := 2 + i) (by omega) (by omega)
        have tw := inOrd_twice (wins t (2 + i))
        refine q_asgR (evr_call (k1 := []) [] (ea1 (ev_callP (ea2 (ev_var rfl) (ev_var rfl)) ⟨_, _, rfl, .str t, .int (2 + (i : Int)), rfl, by show t.length ≤ 1000; omega, rfl, (fun z => by cases z), rfl, ((wdO_ok q1 (k := 2 + i) (by omega) (by omega)).symm.trans (by push_cast; rfl))⟩)) ⟨_, rfl, false, stD (inOrd (wins t (2 + i))), .vl, rfl, (fun d hd => ?g1), by rw [stD_len]; omega, (fun n ss e hn => ?g2), (wnO_ok ne W).symm⟩ (fun o k ⟨_, _, _, h, _⟩ => ⟨_, h⟩)) ?_
        case g1 =>
          obtain ⟨y, hy, rfl⟩ := List.mem_map.mp hd
          show y.length ≤ 1000
          rw [W.le y hy]
          omega
        case g2 =>
          have : ss = inOrd (wins t (2 + i)) := by
            have := congrArg wnO.strsOf e.symm
            rwa [strsOf_stD, strsOf_stD] at this
          subst this
          rw [tw]
          omega
        rintro w' kk ⟨d', k2', ⟨an, ao, ad, e1, e2⟩, rfl, rfl⟩
        cases e1
        subst e2
        rw [tw]
        refine Gp.frzT (NetC K an ao ad (wnP (inOrd (wins t (2 + i)))) (wnE (inOrd (wins t (2 + i))))) (kr := []) (by simp) net_kd (RoT.refl.set (i := 2) rfl (frz_net fun _ h => h)) ?_
        show Gp K B F0 ta2 _ [some (.val (.str t)), some (.val (.int (2 + (i : Int)))), some (.val (NetD K (wnP (inOrd (wins t (2 + i)))) (wnE (inOrd (wins t (2 + i))))))] []
        refine g_if (et_test (ev_eqI (ev_len (ev_prop (k1 := []) [] (d := .tup (stD (wnP (inOrd (wins t (2 + i)))))) (ev_var rfl) .v ⟨_, rfl, _, _, ⟨.inl rfl⟩, rfl⟩ fun _ _ z => z) .vt) (ev_len (ev_prop (k1 := []) [] (d := .tup (stD (lnN (wnE (inOrd (wins t (2 + i))))))) (ev_var rfl) .v ⟨_, rfl, _, wnE (inOrd (wins t (2 + i))), rfl, by rw [wnE_len]; omega, rfl, rfl⟩ fun _ _ z => z) .vt))) (fun hb => g_ret hR (ev_var rfl) ⟨?_, rfl⟩) (fun hb => g_next (g_jp ⟨_, _, rfl, rfl, fun j hj => ?_⟩))
        · rw [stD_len, stD_len, wnE_nm, beq_iff_eq] at hb
          rw [knD_some hi1 (by unfold knB; exact decide_eq_true (by omega)) e3]
        · rcases Nat.lt_or_ge j i with h | h
          · exact e3 j h
          · have : j = i := by omega
            subst this
            rw [stD_len, stD_len, wnE_nm, beq_eq_false_iff_ne] at hb
            unfold knB
            exact decide_eq_false (by omega)
      · subst e1 e2
        refine g_ret hR ev_non ⟨?_, rfl⟩
        rw [knD_none fun j hj => e3 j (by rw [List.length_map, List.length_range]; exact hj)]
    | _ => cases q1
end
theorem ev_lenK {K : PySem.W.Frag} {ro : Ro} {ka k1 : Cells} {te : TE} {p : Addr} {ns : List Int} (h : EvD K te ro ka (.val (.adr p)) k1) (hk : ∀ H, SqL K H p (ns.map V.int)) : EvD K (tCB (rLenU K) (tCons te tNil)) ro ka (.val (.int ns.length)) k1 := fun B F0 ta sg H Q e q => h B F0 ta sg H _ e fun v H1 e1 => .inl ⟨p, ns.map V.int, by rw [e1.tm_adr List.mem_cons_self], .inl (hk H1), by
  rw [List.length_map]
  exact q _ _ (e1.pop.push_imm fun _ => rfl)⟩
theorem ev_ixK {K : PySem.W.Frag} {ro : Ro} {ka k1 k2 : Cells} {te tf : TE} {p : Addr} {ns : List Int} {i : Nat} {z : Int} (h : EvD K te ro ka (.val (.adr p)) k1) (h2 : EvD K tf ro k1 (.val (.int i)) k2) (hk : ∀ H, SqL K H p (ns.map V.int)) (hz : ns[i]? = some z) : EvD K (tOp (rIx K) te tf) ro ka (.val (.int z)) k2 := ev_op h h2 fun B F0 ro ta sg H u v Q e h1 h2 q =>
  .inl ⟨p, ns.map V.int, i, .int z, e.tm_adr h1, e.tm_int h2, hk H, atI_nat (by rw [List.getElem?_map, hz]; rfl), q _ _ (e.push_imm fun _ => rfl)⟩
def ct_law_cell (K : PySem.W.Frag) : Ct := Ct2 fun a b ka out => ∃ ns, ∃ k : Nat, Scr K a ns ∧ b = .val (.int k) ∧ ka = [] ∧ out = Rt (.int (ns.getD k 0)) []
section
variable {P : Program} {w : World} {K : PySem.W.Frag} {mg : Str → Option Value} {base : Heap}
theorem ok_law_cell (T : Tx K mg) : Fn P w K mg base 4 (He.ga K "_law_cell") ["_law_script", "_law_k"] (ct_law_cell K) := by
  obtain ⟨fd, F⟩ := T.d_law_cell
  refine fn_ok F sc_law_cell (fun _ _ _ _ _ _ us hl => match us, hl with | [_, _], _ => rfl) ct2_len (fun cdv A outer s H E hr => ⟨_, (pss_cons (ps_if (pt_cmpR op_lt (pv 1) (pe_callB call_lenU rfl T.n_len (by decide +kernel) (pa_cons (pv 0) pa_nil)) (nomark _))
      (pss_one (ps_ret (pe_ix ix_seq (pv 0) (pv 1) fun _ _ => rfl)))
      pss_nil)
      (pss_one (ps_ret pe_int))), fun ws ka out B F0 Q hC hR hX => ?_⟩)
  obtain ⟨a, b, rfl, ns, k, hs, rfl, rfl, rfl⟩ := hC
  have out0 : ¬ k < ns.length → ns.getD k 0 = 0 := fun h => by
    rw [List.getD_eq_getElem?_getD, List.getElem?_eq_none (by omega)]
    rfl
  have in0 : k < ns.length → ns[k]? = some (ns.getD k 0) := fun h => by
    rw [List.getD_eq_getElem?_getD, List.getElem?_eq_getElem h]
    rfl
  rcases hs with rfl | ⟨p, rfl, hk⟩
  · have hl : (inD ns).length = ns.length := List.length_map ..
    refine q_when (et_test (ev_lt (ev_var rfl) (ev_len (ev_var rfl) .vl))) (fun hb => g_ret hR (ev_ixV (d := .int (ns.getD k 0)) (ev_var rfl) (ev_var rfl) .vl (atI_nat ?_)) ⟨rfl, rfl⟩) (fun hb => g_ret hR ev_int ⟨?_, rfl⟩)
    · rw [decide_eq_true_eq, hl] at hb
      unfold inD
      rw [List.getElem?_map, in0 (by omega)]
      rfl
    · rw [decide_eq_false_iff_not, hl] at hb
      rw [out0 (by omega)]
  · refine q_when (et_test (ev_lt (ev_var rfl) (ev_lenK (ev_var rfl) hk))) (fun hb => g_ret hR (ev_ixK (ev_var rfl) (ev_var rfl) hk (in0 ?_)) ⟨rfl, rfl⟩) (fun hb => g_ret hR ev_int ⟨?_, rfl⟩)
    · rw [decide_eq_true_eq] at hb
      omega
    · rw [decide_eq_false_iff_not] at hb
      rw [out0 (by omega)]
end
def ct_law_pool (K : PySem.W.Frag) : Ct := Ct1 fun a ka out => ∃ z, a = .val (.int z) ∧ ka = [] ∧ out = Nt (.lst (plOf z).ds) []
section
variable {P : Program} {w : World} {K : PySem.W.Frag} {mg : Str → Option Value} {base : Heap}
theorem ok_law_pool (T : Tx K mg) : Fn P w K mg base 4 (He.ga K "_law_pool") ["_law_cell_here"] (ct_law_pool K) := by
  obtain ⟨fd, F⟩ := T.d_law_pool
  refine fn_ok F sc_law_pool (fun _ _ _ _ _ _ us hl => match us, hl with | [_], _ => rfl) ct1_len (fun cdv A outer s H E hr => ⟨_, (pss_cons (ps_set (i := 1) sc_law_pool.nd rfl (by first | exact Or.inl rfl | exact Or.inr rfl) (pe_op op_mulU pe_int (pv 0)))
      (pss_cons (ps_if (pt_cmpR op_lt (pv 0) pe_int (nomark _))
      (pss_one (ps_set (i := 1) sc_law_pool.nd rfl (by first | exact Or.inl rfl | exact Or.inr rfl) (pe_op op_sub (pe_op op_sub pe_int (pe_op op_mulU pe_int (pv 0))) pe_int)))
      pss_nil)
      (pss_cons (ps_if (pt_cmpR op_ge (pv 1) (pe_op op_pow pe_int pe_int) (nomark _))
      (pss_one (ps_ret (pe_lst (pa_cons (pv 1) (pa_cons (pe_op op_mod (pe_callTy call_intU rfl T.n_int (by decide +kernel) (pa_cons (pv 1) pa_nil)) pe_int) (pa_cons pe_int pa_nil))))))
      pss_nil)
      (pss_one (ps_ret (pe_lst (pa_cons pe_int (pa_cons (pe_op op_mod (pe_callTy call_intU rfl T.n_int (by decide +kernel) (pa_cons (pv 1) pa_nil)) pe_int) (pa_cons pe_int pa_nil))))))))), fun ws ka out B F0 Q hC hR hX => ?_⟩)
  obtain ⟨a, rfl, z, rfl, rfl, rfl⟩ := hC
  refine q_asg (ev_mulL ev_int (ev_var rfl)) ?_
  refine q_whenI (fun ro ka => ro = [some (.val (.int z)), some (.val (.int (fldZ z)))] ∧ ka = []) (et_test (ev_lt (ev_var rfl) ev_int)) (fun hb nx k => g_asg (ev_subI (ev_subI ev_int (ev_mulL ev_int (ev_var rfl))) ev_int) (k _ _ ⟨?_, rfl⟩)) (fun hb => ⟨?_, rfl⟩) ?_
  · rw [decide_eq_true_eq] at hb
    unfold fldZ
    rw [if_pos hb]
    rfl
  · rw [decide_eq_false_iff_not] at hb
    unfold fldZ
    rw [if_neg hb]
    rfl
  · rintro ro2 ka2 ⟨rfl, rfl⟩
    refine q_when (et_test (ev_ge (ev_var rfl) (ev_powI ev_int ev_int ⟨by decide, by decide, by decide⟩))) (fun hb => g_retC hR (evn_lst (ds := (plOf z).ds) (ea3 (ev_var rfl) (ev_modI (ev_int1 (ev_var rfl)) ev_int (by decide)) ev_int |>.to ?_) (show 3 ≤ 100000 by decide)) (fun a => ⟨a, rfl, rfl⟩)) (fun hb => g_retC hR (evn_lst (ds := (plOf z).ds) (ea3 ev_int (ev_modI (ev_int1 (ev_var rfl)) ev_int (by decide)) ev_int |>.to ?_) (show 3 ≤ 100000 by decide)) (fun a => ⟨a, rfl, rfl⟩))
    · rw [decide_eq_true_eq] at hb
      have hb : fldZ z ≥ 10 ^ 18 := hb
      unfold plOf
      rw [if_pos hb]
      rfl
    · rw [decide_eq_false_iff_not] at hb
      have hb : ¬ fldZ z ≥ 10 ^ 18 := hb
      unfold plOf
      rw [if_neg hb]
      rfl
end
def ct_law_take (K : PySem.W.Frag) : Ct := Ct2 fun s b ka out => ∃ a p m, s = .val (.adr a) ∧ b = .val (.int m) ∧ ka = [(a, .lst (Pl.ds p))] ∧ p.Ok 1000000 ∧ 0 < m ∧ m ≤ 100000000 ∧ out = Rt (.int (tk p m).1) [(a, .lst (tk p m).2.ds)]
/-- a draw from the pool that is the first cell -/
theorem ev_take {K : PySem.W.Frag} {ro : Ro} {ka kr : Cells} {te tf : TE} {a : Addr} {p : Pl} {m : Int} {E : XK} {k1 : Cells} (h : EvD K te ro ka (.val (.adr a)) k1) (h2 : EvD K tf ro k1 (.val (.int m)) ((a, .lst p.ds) :: kr)) (hp : p.Ok 1000000) (h0 : 0 < m) (h1 : m ≤ 100000000) :
    EvD K (tCall (spC K (ct_law_take K)) [] E (tCons te (tCons tf tNil))) ro ka (.val (.int (tk p m).1)) ((a, .lst (tk p m).2.ds) :: kr) := ev_call1 (ea2 h h2) ⟨_, _, rfl, a, p, m, rfl, rfl, rfl, hp, h0, h1, rfl⟩
/-- a thing drawn out of texts, the pool behind it -/
def drawS (p : Pl) (ss : List Str) : Str := ss.getD (tk p ((stD ss).length : Nat)).1.toNat ""
def drawP (p : Pl) (ss : List Str) : Pl := (tk p ((stD ss).length : Nat)).2
theorem draw_lt {ss : List Str} (h : ss ≠ []) (p : Pl) : (0 : Int) < ((stD ss).length : Nat) ∧ 0 ≤ (tk p ((stD ss).length : Nat)).1 ∧ (tk p ((stD ss).length : Nat)).1.toNat < ss.length := by
  have hp := List.length_pos_iff.mpr h
  have hL : (0 : Int) < ((stD ss).length : Nat) := by rw [stD_len]; omega
  have t1 := tk_lt p hL
  refine ⟨hL, t1.1, ?_⟩
  have h1 := t1.1
  have h2 := t1.2
  rw [stD_len] at h1 h2 ⊢
  omega
theorem draw_eq {ss : List Str} (h : ss ≠ []) (p : Pl) : ss[(tk p ((stD ss).length : Nat)).1.toNat]? = some (drawS p ss) := by
  unfold drawS
  rw [List.getD_eq_getElem?_getD, List.getElem?_eq_getElem (draw_lt h p).2.2]
  rfl
theorem drawS_mem {ss : List Str} (h : ss ≠ []) (p : Pl) : drawS p ss ∈ ss := List.mem_of_getElem? (draw_eq h p)
theorem drawP_ok {ss : List Str} {p : Pl} {n : Int} (hp : p.Ok n) (h : ss ≠ []) : (drawP p ss).Ok (n + 1) := tk_ok hp (draw_lt h p).1
theorem ev_draw {K : PySem.W.Frag} {ro : Ro} {ka kr k0 k1 : Cells} {te tp tl : TE} {a : Addr} {p : Pl} {ss : List Str} {E : XK} (h1 : EvD K te ro ka (.val (.lst (stD ss))) k0) (h2 : EvD K tp ro k0 (.val (.adr a)) k1) (h3 : EvD K tl ro k1 (.val (.lst (stD ss))) ((a, .lst p.ds) :: kr)) (hp : p.Ok 1000000) (h : ss ≠ []) (hl : ss.length ≤ 100000) :
    EvD K (tOp (rIx K) te (tCall (spC K (ct_law_take K)) [] E (tCons tp (tCons (tCB (rLenU K) (tCons tl tNil)) tNil)))) ro ka (.val (.str (drawS p ss))) ((a, .lst (drawP p ss).ds) :: kr) :=
  ev_ixV h1 (ev_take h2 (ev_len h3 .vl) hp (draw_lt h p).1 (by rw [stD_len]; omega)) .vl (atZ (draw_lt h p).2.1 (stD_get (draw_eq h p)))
section
variable {P : Program} {w : World} {K : PySem.W.Frag} {mg : Str → Option Value} {base : Heap}
theorem ok_law_take (T : Tx K mg) : Fn P w K mg base 4 (He.ga K "_law_take") ["_law_pool_here", "_law_many"] (ct_law_take K) := by
  obtain ⟨fd, F⟩ := T.d_law_take
  refine fn_ok F sc_law_take (fun _ _ _ _ _ _ us hl => match us, hl with | [_, _], _ => rfl) ct2_len (fun cdv A outer s H E hr => ⟨_, (pss_cons (ps_if (pt_cmpR op_gt (pe_ix ix_seq (pv 0) pe_int fun _ _ => rfl) pe_int (nomark _))
      (pss_cons (ps_set (i := 2) sc_law_take.nd rfl (by first | exact Or.inl rfl | exact Or.inr rfl) (pe_op op_mod (pe_callTy call_intU rfl T.n_int (by decide +kernel) (pa_cons (pe_ix ix_seq (pv 0) pe_int fun _ _ => rfl) pa_nil)) (pv 1)))
      (pss_cons (ps_asg (pe_op op_fdiv (pe_ix ix_seq (pv 0) pe_int fun _ _ => rfl) (pv 1)) (pg_sub (pv 0) pe_int set_list))
      (pss_one (ps_ret (pv 2)))))
      pss_nil)
      (pss_cons (ps_asg (pe_op op_addU (pe_ix ix_seq (pv 0) pe_int fun _ _ => rfl) pe_int) (pg_sub (pv 0) pe_int set_list))
      (pss_cons (ps_set (i := 3) sc_law_take.nd rfl (by first | exact Or.inl rfl | exact Or.inr rfl) (pe_op op_mod (pe_callTy call_intU rfl T.n_int (by decide +kernel) (pa_cons (pe_op op_pow (pe_op op_addU (pe_op op_addU (pe_ix ix_seq (pv 0) pe_int fun _ _ => rfl) (pe_op op_mulU pe_int (pe_ix ix_seq (pv 0) pe_int fun _ _ => rfl))) pe_int) pe_int) pa_nil)) pe_int))
      (pss_one (ps_ret (pe_op op_mod (pe_op op_mod (pe_callTy call_intU rfl T.n_int (by decide +kernel) (pa_cons (pe_op op_mulU (pe_op op_addU (pv 3) (pe_ix ix_seq (pv 0) pe_int fun _ _ => rfl)) pe_int) pa_nil)) pe_int) (pv 1))))))), fun ws ka out B F0 Q hC hR hX => ?_⟩)
  obtain ⟨s1, b, rfl, a, p, m, rfl, rfl, rfl, hp, h0, h1, rfl⟩ := hC
  obtain ⟨p1, p2, p3, p4, p5⟩ := hp
  have i2 : atI (Pl.ds p) 2 = some (.int p.c) := atI_nat (j := 2) rfl
  have i1 : atI (Pl.ds p) 1 = some (.int p.b) := atI_nat (j := 1) rfl
  refine q_when (et_test (ev_gt (ev_ixV (ev_var rfl) ev_int (.ce 0 rfl) at0) ev_int)) (fun hb => ?_) (fun hb => ?_)
  · rw [decide_eq_true_eq] at hb
    refine q_asg (ev_modI (ev_int1 (ev_ixV (ev_var rfl) ev_int (.ce 0 rfl) at0)) (ev_var rfl) h0) ?_
    refine q_seti (j := 0) (ix := 0) (ev_divI (ev_ixV (ev_var rfl) ev_int (.ce 0 rfl) at0) (ev_var rfl) ⟨h0, by omega⟩) (ev_var rfl) ev_int rfl rfl ?_
    refine g_ret hR (ev_var rfl) ?_
    unfold tk
    rw [if_pos hb]
    exact ⟨rfl, rfl⟩
  · rw [decide_eq_false_iff_not] at hb
    refine q_seti (j := 0) (ix := 2) (ev_addI (ev_ixV (ev_var rfl) ev_int (.ce 0 rfl) i2) ev_int) (ev_var rfl) ev_int rfl rfl ?_
    refine q_asg (ev_modI (ev_int1 (ev_powI (i := p.b + 7919 * (p.c + 1) + 104729) (ev_addI (ev_addI (ev_ixV (ev_var rfl) ev_int (.ce 0 rfl) (atI_nat (j := 1) rfl)) (ev_mulL ev_int (ev_ixV (ev_var rfl) ev_int (.ce 0 rfl) (atI_nat (j := 2) rfl)))) ev_int) ev_int ⟨by decide, by decide, ?_⟩)) ev_int (by decide)) ?_
    · omega
    refine g_ret hR (ev_modI (ev_modI (ev_int1 (ev_mulR (ev_addI (ev_var rfl) (ev_ixV (ev_var rfl) ev_int (.ce 0 rfl) (atI_nat (j := 2) rfl))) ev_int)) ev_int (by decide)) (ev_var rfl) h0) ?_
    unfold tk
    rw [if_neg hb]
    exact ⟨rfl, rfl⟩
end
def ct_law_mixed (K : PySem.W.Frag) : Ct := Ct2 fun s b ka out => ∃ a p n ds, s = .val (.adr a) ∧ b = .val (.lst ds) ∧ ka = [(a, .lst (Pl.ds p))] ∧ p.Ok n ∧ 0 ≤ n ∧ n ≤ 900000 ∧ ds.length ≤ 1000 ∧
  out = fun o k => ∃ es p', o = .ret (.lst es) ∧ k = [(a, .lst (Pl.ds p'))] ∧ p'.Ok (n + ds.length) ∧ es.Perm ds
section
variable {P : Program} {w : World} {K : PySem.W.Frag} {mg : Str → Option Value} {base : Heap}
theorem ok_law_mixed (T : Tx K mg) (F_law_take : Fn P w K mg base 4 (He.ga K "_law_take") ["_law_pool_here", "_law_many"] (ct_law_take K)) : Fn P w K mg base 6 (He.ga K "_law_mixed") ["_law_pool_here", "_law_things"] (ct_law_mixed K) := by
  obtain ⟨fd, F⟩ := T.d_law_mixed
  refine fn_ok F sc_law_mixed (fun _ _ _ _ _ _ us hl => match us, hl with | [_, _], _ => rfl) ct2_len (fun cdv A outer s H E hr => ⟨_, (pss_cons (ps_set (i := 2) sc_law_mixed.nd rfl (by first | exact Or.inl rfl | exact Or.inr rfl) (pe_callTy call_lstU rfl T.n_list (by decide +kernel) (pa_cons (pv 1) pa_nil)))
      (pss_cons (ps_set (i := 3) sc_law_mixed.nd rfl (by first | exact Or.inl rfl | exact Or.inr rfl) (pe_lst pa_nil))
      (pss_cons (ps_for (passes_of rfl) rfl (pi_range1 rfl T.n_range (pa_cons (pe_callB call_lenU rfl T.n_len (by decide +kernel) (pa_cons (pv 1) pa_nil)) pa_nil)) (pg_name (i := 4) sc_law_mixed.nd rfl (by first | exact Or.inl rfl | exact Or.inr rfl)) (pss_cons (ps_set (i := 5) sc_law_mixed.nd rfl (by first | exact Or.inl rfl | exact Or.inr rfl) (pe_call (F_law_take.up (by decide)).ok hr rfl T.g_law_take.1 T.g_law_take.2 (F_law_take.up (by decide)).bn .nil (pass_own rfl rfl rfl rfl) (pa_cons (pv 0) (pa_cons (pe_callB call_lenU rfl T.n_len (by decide +kernel) (pa_cons (pv 2) pa_nil)) pa_nil))))
      (pss_cons (ps_expr (pe_bm PySem.F.plainAttrs_list PySem.F.slot_list_append PySem.F.type_list_append mt_append (pv 3) (pa_cons (pe_ix ix_seq (pv 2) (pv 5) fun _ _ => rfl) pa_nil)))
      (pss_one (ps_set (i := 2) sc_law_mixed.nd rfl (by first | exact Or.inl rfl | exact Or.inr rfl) (pe_op op_addU (pe_slice sl_U (pv 2) po_none (po_some (pv 5))) (pe_slice sl_U (pv 2) (po_some (pe_op op_addU (pv 5) pe_int)) po_none)))))))
      (pss_one (ps_ret (pv 3)))))), fun ws ka out B F0 Q hC hR hX => ?_⟩)
  obtain ⟨s1, b1, rfl, a, p, n, ds, rfl, rfl, rfl, hp, hn0, hn, hl, rfl⟩ := hC
  refine q_asg (evn_cb (ea1 (ev_var rfl)) (rcn_lst .vl (.inl rfl))).lst ?_
  refine q_asgN (evn_lst (ds := []) ea_nil (by decide)) (fun b => ?_)
  refine q_forn (ei_range1 (ea1 (ev_len (ev_var rfl) .vl)) (by omega) (by omega)) (fun i ro ka => ∃ ls ms p' v v2, ro = [some (.val (.adr a)), some (.val (.lst ds)), some (.val (.lst ls)), some (.val (.adr b)), v, v2] ∧ ka = [(a, .lst (Pl.ds p')), (b, .lst ms)] ∧ p'.Ok (n + i) ∧ ms.length = i ∧ (ms ++ ls).Perm ds)
    ⟨ds, [], p, none, none, rfl, rfl, hp.up (by omega), rfl, List.Perm.refl _⟩ (fun i ro ka _ => trivial) (fun i w ro2 ka2 ta' hw ⟨ls, ms, p', v, v2, e1, e2, hp', hm, hpm⟩ => ?_) (fun ro2 ka2 ta' ⟨ls, ms, p', v, v2, e1, e2, hp', hm, hpm⟩ _ => ?_)
  · subst e1 e2
    have hi : i < ds.length := by
      have := (List.getElem?_eq_some_iff.mp hw).1
      rw [List.length_map, List.length_range] at this
      omega
    have hlen : i + ls.length = ds.length := by rw [← hm, ← List.length_append, hpm.length_eq]
    have t1 := tk_lt p' (m := (ls.length : Int)) (by omega)
    refine q_asg (ev_take (kr := [(b, .lst ms)]) (ev_var rfl) (ev_len (ev_var rfl) .vl) (hp'.up (by omega)) (by omega) (by omega)) ?_
    have o1 := tk_ok hp' (m := (ls.length : Int)) (by omega)
    generalize tk p' (ls.length : Int) = q at *
    have hlt : q.1.toNat < ls.length := by omega
    refine q_app (j0 := 1) (j := 1) (d := ls[q.1.toNat]) (ev_var rfl) rfl (ev_ixV (ev_var rfl) (ev_var rfl) .vl (atZ t1.1 (List.getElem?_eq_getElem hlt))) rfl (by omega) ?_
    refine g_asg (evn_op (evn_sl (ev_var rfl) eo_none (eo_some (ev_var rfl)) .vl).lst (evn_sl (ev_var rfl) (eo_some (ev_addI (ev_var rfl) ev_int)) eo_none .vl).lst (rvn_cat (b1 := false) (b2 := false) .vl .vl ?_)).lst (g_jp ⟨_, _, q.2, _, _, rfl, rfl, o1.up (by push_cast; omega), by rw [List.length_append, hm]; rfl, ?_⟩)
    · have h1 := cut_len ls none (some q.1)
      have h2 := cut_len ls (some (q.1 + 1)) none
      omega
    · rw [cut_to' t1.1, cut_from (by omega) (by omega)]
      have e3 : ls = ls.take q.1.toNat ++ ls[q.1.toNat] :: ls.drop (q.1.toNat + 1) := by rw [List.getElem_cons_drop, List.take_append_drop]
      have e4 : (q.1 + 1).toNat = q.1.toNat + 1 := by omega
      rw [e4, List.append_assoc]
      refine List.Perm.trans (List.Perm.append_left ms ?_) hpm
      exact (List.perm_middle (l₁ := ls.take q.1.toNat) (l₂ := ls.drop (q.1.toNat + 1)) (a := ls[q.1.toNat])).symm.trans (List.Perm.of_eq e3.symm)
  · subst e1 e2
    rw [List.length_map, List.length_range] at hp' hm
    have h0 : ls = [] := by
      have := hpm.length_eq
      rw [List.length_append] at this
      exact List.eq_nil_of_length_eq_zero (by omega)
    subst h0
    rw [List.append_nil] at hpm
    exact Gp.frz (i := 3) (j := 1) rfl rfl (g_ret hR (ev_var rfl) ⟨ms, p', rfl, rfl, hp'.up (by omega), hpm⟩)
end
def ct_law_ends (K : PySem.W.Frag) : Ct := Ct1 fun s ka out => ∃ ps es, s = .val (PtD ps es) ∧ (lnN es).Nodup ∧ es.length ≤ 50000 ∧ ka = [] ∧ out = Rt (.dic (enD es)) []
section
variable {P : Program} {w : World} {K : PySem.W.Frag} {mg : Str → Option Value} {base : Heap}
theorem ok_law_ends (T : Tx K mg) : Fn P w K mg base 4 (He.ga K "_law_ends") ["_law_parts"] (ct_law_ends K) := by
  obtain ⟨fd, F⟩ := T.d_law_ends
  refine fn_ok F sc_law_ends (fun _ _ _ _ _ _ us hl => match us, hl with | [_], _ => rfl) ct1_len (fun cdv A outer s H E hr => ⟨_, (pss_cons (ps_set (i := 1) sc_law_ends.nd rfl (by first | exact Or.inl rfl | exact Or.inr rfl) pe_dnewK)
      (pss_cons (ps_for (passes_of rfl) rfl (pi_seq (pe_ix ix_seq (pv 0) pe_int fun _ _ => rfl)) (pg_tup rfl (pgs_cons (pg_name (i := 2) sc_law_ends.nd rfl (by first | exact Or.inl rfl | exact Or.inr rfl)) (pgs_cons (pg_name (i := 3) sc_law_ends.nd rfl (by first | exact Or.inl rfl | exact Or.inr rfl)) (pgs_cons (pg_name (i := 4) sc_law_ends.nd rfl (by first | exact Or.inl rfl | exact Or.inr rfl)) pgs_nil)))) (pss_one (ps_dput (hu1 hr) (pv 1) (pv 2) (pe_tup (pa_cons (pv 3) (pa_cons (pv 4) pa_nil))) rfl)))
      (pss_one (ps_ret (pv 1))))), fun ws ka out B F0 Q hC hR hX => ?_⟩)
  obtain ⟨s, rfl, ps, es, rfl, hn, hl, rfl, rfl⟩ := hC
  refine q_asgN evn_dnew (fun a => ?_)
  refine q_forT (ei_map (ts := es) (f := rwL) (ev_ixV (ev_var rfl) ev_int .vl (atI_nat (j := 1) rfl))) (fun i ro ka => ∃ v1 v2 v3, ro = [some (.val (PtD ps es)), some (.val (.adr a)), v1, v2, v3] ∧ ka = [(a, .dic (enD (es.take i)))]) ⟨none, none, none, rfl, rfl⟩ (fun i ro ka _ => trivial) (fun i w ro2 ka2 ta' hw ⟨v1, v2, v3, e1, e2⟩ => ?_) (fun ro2 ka2 ta' ⟨v1, v2, v3, e1, e2⟩ _ => ?_)
  · subst e1 e2
    rw [List.getElem?_map] at hw
    obtain ⟨r, hr2, rfl⟩ := Option.map_eq_some_iff.mp hw
    refine ⟨_, at_t3, g_dput (j := 0) (ev_tup (ds := [.str r.2.1, .str r.2.2]) (ea2 (ev_var rfl) (ev_var rfl)) (show 2 ≤ 100000 by decide)) (ev_var rfl) (ev_var rfl) rfl ?_ (g_jp ⟨_, _, _, rfl, ?_⟩)⟩
    · rw [enD_len, List.length_take]
      omega
    · rw [← enD_take hn hr2]
      rfl
  · subst e1 e2
    rw [List.length_map, List.take_length]
    exact Gp.frzK (kr := []) (i := 1) rfl (List.Perm.refl _) (g_ret hR (ev_var rfl) ⟨rfl, rfl⟩)
end
/-! ### what a post reaches -/
inductive Rch (es : List Ln) (p : Str) : Str → Prop where
  | refl : Rch es p p
  | step {x : Str} {r : Ln} (h : Rch es p x) (m : r ∈ es) (e : r.2.1 = x) : Rch es p r.2.2
/-- the lanes ls lead from p to q -/
def Wk (es : List Ln) (p : Str) : List Str → Str → Prop
  | [], q => p = q
  | l :: ls, q => ∃ r ∈ es, r.1 = l ∧ r.2.1 = p ∧ Wk es r.2.2 ls q
theorem Wk.snoc {es : List Ln} {r : Ln} (m : r ∈ es) : ∀ {ls : List Str} {p : Str}, Wk es p ls r.2.1 → Wk es p (ls ++ [r.1]) r.2.2
  | [], p, h => ⟨r, m, rfl, (show p = r.2.1 from h).symm, rfl⟩
  | l :: ls, p, ⟨r', m', e1, e2, h⟩ => ⟨r', m', e1, e2, Wk.snoc m h⟩
theorem Wk.rch {es : List Ln} {s : Str} : ∀ {ls : List Str} {p q : Str}, Rch es s p → Wk es p ls q → Rch es s q
  | [], p, q, a, h => (show p = q from h) ▸ a
  | l :: ls, p, q, a, ⟨r, m, _, e2, h⟩ => Wk.rch (Rch.step (x := p) a m e2) h
/-- the way that wy has to p -/
def lsOf (wy : List (Str × List Str)) (p : Str) : List Str := ((wy.find? fun e => decide (e.1 = p)).map (·.2)).getD []
/-- one lane looked at from cur -/
def wStp (cur : Str) (wy : List (Str × List Str)) (r : Ln) : List (Str × List Str) := if r.2.1 = cur ∧ ¬ r.2.2 ∈ keysT wy then wy ++ [(r.2.2, lsOf wy cur ++ [r.1])] else wy
/-- the search: n posts may still be looked at, the next one is the a-th, its first j lanes are done -/
def bfsJ (es : List Ln) : Nat → Nat → Nat → List (Str × List Str) → List (Str × List Str)
  | 0, _, _, wy => wy
  | n + 1, a, j, wy => match (keysT wy)[a]? with
    | some cur => bfsJ es n (a + 1) 0 ((es.drop j).foldl (wStp cur) wy)
    | none => wy
def wyAll (ps : List Str) (es : List Ln) (s : Str) : List (Str × List Str) := bfsJ es ps.length 0 0 [(s, [])]
theorem lsOf_of {wy : List (Str × List Str)} (hn : (keysT wy).Nodup) {p : Str} {ls : List Str} (h : (p, ls) ∈ wy) : lsOf wy p = ls := by
  unfold lsOf
  induction wy with
  | nil => cases h
  | cons x l ih =>
    have hn2 := List.nodup_cons.mp hn
    rw [List.find?_cons]
    rcases List.mem_cons.mp h with e | h
    · rw [← e, decide_eq_true rfl]
      rfl
    · have ne : ¬ x.1 = p := fun z => hn2.1 (by show x.1 ∈ _; rw [z]; exact List.mem_map.mpr ⟨_, h, rfl⟩)
      rw [decide_eq_false ne]
      exact ih hn2.2 h
theorem bfsJ_skip {es : List Ln} {n a j : Nat} {wy : List (Str × List Str)} {r : Ln} (hr : es[j]? = some r) (h : ∀ cur, (keysT wy)[a]? = some cur → wStp cur wy r = wy) : bfsJ es n a (j + 1) wy = bfsJ es n a j wy := by
  cases n with
  | zero => rfl
  | succ n =>
    unfold bfsJ
    cases hc : (keysT wy)[a]? with
    | none => rfl
    | some cur =>
      have e : es.drop j = r :: es.drop (j + 1) := by
        obtain ⟨hj, rfl⟩ := List.getElem?_eq_some_iff.mp hr
        rw [List.getElem_cons_drop]
      dsimp only
      rw [e, List.foldl_cons, h cur hc]
theorem bfsJ_add {es : List Ln} {n a j : Nat} {wy : List (Str × List Str)} {r : Ln} {cur : Str} (hr : es[j]? = some r) (hc : (keysT wy)[a]? = some cur) (h1 : r.2.1 = cur) (h2 : ¬ r.2.2 ∈ keysT wy) : bfsJ es n a (j + 1) (wy ++ [(r.2.2, lsOf wy cur ++ [r.1])]) = bfsJ es n a j wy ∨ n = 0 := by
  cases n with
  | zero => exact .inr rfl
  | succ n =>
    refine .inl ?_
    have e : es.drop j = r :: es.drop (j + 1) := by
      obtain ⟨hj, rfl⟩ := List.getElem?_eq_some_iff.mp hr
      rw [List.getElem_cons_drop]
    have hlt := (List.getElem?_eq_some_iff.mp hc).1
    have hc2 : (keysT (wy ++ [(r.2.2, lsOf wy cur ++ [r.1])]))[a]? = some cur := by
      rw [keys_app, List.getElem?_append_left hlt]
      exact hc
    unfold bfsJ
    rw [hc, hc2]
    dsimp only
    rw [e, List.foldl_cons]
    have : wStp cur wy r = wy ++ [(r.2.2, lsOf wy cur ++ [r.1])] := if_pos ⟨h1, h2⟩
    rw [this]
theorem bfsJ_next {es : List Ln} {n a : Nat} {wy : List (Str × List Str)} {cur : Str} (hc : (keysT wy)[a]? = some cur) : bfsJ es (n + 1) a es.length wy = bfsJ es n (a + 1) 0 wy := by
  rw [bfsJ, hc]
  dsimp only
  rw [List.drop_length]
  rfl
theorem bfsJ_end {es : List Ln} {n a j : Nat} {wy : List (Str × List Str)} (hc : (keysT wy)[a]? = none) : bfsJ es n a j wy = wy := by
  cases n with
  | zero => rfl
  | succ n => rw [bfsJ, hc]
def wyD (wy : List (Str × List Str)) : List (Key × D) := tbD (fun ls => .lst (stD ls)) wy
/-- wy: of each post that s reaches a walk from s to it -/
structure WyOk (ps : List Str) (es : List Ln) (s : Str) (wy : List (Str × List Str)) : Prop where
  eq : wy = wyAll ps es s
  nd : (keysT wy).Nodup
  wk : ∀ p ls, (p, ls) ∈ wy → Wk es s ls p ∧ ls.length ≤ wy.length
  all : ∀ p, p ∈ keysT wy ↔ Rch es s p
/-- on the way: the first at ones are done, of the next one the first j lanes -/
structure WyIn (ps : List Str) (es : List Ln) (s : Str) (at' j : Nat) (wy : List (Str × List Str)) : Prop where
  nd : (keysT wy).Nodup
  sub : ∀ p ∈ keysT wy, p ∈ ps
  st : s ∈ keysT wy
  wk : ∀ p ls, (p, ls) ∈ wy → Wk es s ls p ∧ ls.length ≤ wy.length
  le : at' ≤ wy.length
  done : ∀ i, i < at' → ∀ p, (keysT wy)[i]? = some p → ∀ r ∈ es, r.2.1 = p → r.2.2 ∈ keysT wy
  cur : ∀ p, (keysT wy)[at']? = some p → ∀ i r, i < j → es[i]? = some r → r.2.1 = p → r.2.2 ∈ keysT wy
  run : bfsJ es (ps.length - at') at' j wy = wyAll ps es s
theorem sub_len : ∀ {xs ys : List Str}, xs.Nodup → (∀ x ∈ xs, x ∈ ys) → xs.length ≤ ys.length
  | [], _, _, _ => Nat.zero_le _
  | x :: xs, ys, h, s => by
    have h2 := List.nodup_cons.mp h
    have hx := s x List.mem_cons_self
    have := sub_len (xs := xs) (ys := ys.erase x) h2.2 fun y hy => (List.mem_erase_of_ne (fun z : y = x => h2.1 (by rw [← z]; exact hy))).mpr (s y (List.mem_cons_of_mem _ hy))
    rw [List.length_erase_of_mem hx] at this
    have : 0 < ys.length := List.length_pos_of_mem hx
    rw [List.length_cons]
    omega
theorem WyIn.len {ps : List Str} {es : List Ln} {s : Str} {a j : Nat} {wy : List (Str × List Str)} (h : WyIn ps es s a j wy) : wy.length ≤ ps.length := by
  have := sub_len h.nd h.sub
  rwa [List.length_map] at this
/-- a lane that leads to a post there already, or that starts elsewhere -/
theorem WyIn.skip {ps : List Str} {es : List Ln} {s : Str} {a j : Nat} {wy : List (Str × List Str)} (h : WyIn ps es s a j wy) {r : Ln} (hr : es[j]? = some r) (c : ∀ p, (keysT wy)[a]? = some p → r.2.1 = p → r.2.2 ∈ keysT wy) : WyIn ps es s a (j + 1) wy :=
  ⟨h.nd, h.sub, h.st, h.wk, h.le, h.done, fun p hp i r' hi hr' e => by
    by_cases q : i = j
    · subst q
      rw [hr] at hr'
      cases hr'
      exact c p hp e
    · exact h.cur p hp i r' (by omega) hr' e, (bfsJ_skip hr fun cur hc => if_neg fun z => z.2 (c cur hc z.1)).trans h.run⟩
/-- a lane that leads to a new post -/
theorem WyIn.add {ps : List Str} {es : List Ln} {s : Str} {a j : Nat} {wy : List (Str × List Str)} (h : WyIn ps es s a j wy) {r : Ln} (hr : es[j]? = some r) {ls : List Str} (hf : (r.2.1, ls) ∈ wy) (hcu : (keysT wy)[a]? = some r.2.1) (hn : ¬ r.2.2 ∈ keysT wy) (hp : r.2.2 ∈ ps) (hl : a < wy.length) : WyIn ps es s a (j + 1) (wy ++ [(r.2.2, ls ++ [r.1])]) := by
  have m := List.mem_of_getElem? hr
  have hk : keysT (wy ++ [(r.2.2, ls ++ [r.1])]) = keysT wy ++ [r.2.2] := keys_app _ _
  have up : ∀ {x}, x ∈ keysT wy → x ∈ keysT (wy ++ [(r.2.2, ls ++ [r.1])]) := fun hx => by rw [hk]; exact List.mem_append_left _ hx
  refine ⟨?_, fun p q => ?_, up h.st, fun p ms q => ?_, ?_, fun i hi p e r' m' e' => ?_, fun p e i r' hi hr' e' => ?_, ?_⟩
  · rw [hk, List.nodup_append]
    refine ⟨h.nd, List.nodup_cons.mpr ⟨List.not_mem_nil, List.nodup_nil⟩, fun x hx y hy z => hn ?_⟩
    rw [List.mem_singleton.mp hy] at z
    rw [← z]; exact hx
  · rw [hk] at q
    rcases List.mem_append.mp q with q | q
    · exact h.sub p q
    · rw [List.mem_singleton.mp q]; exact hp
  · rw [List.length_append, List.length_singleton]
    rcases List.mem_append.mp q with q | q
    · have := h.wk p ms q
      exact ⟨this.1, by omega⟩
    · have q' := List.mem_singleton.mp q
      cases q'
      have := h.wk _ _ hf
      exact ⟨this.1.snoc m, by rw [List.length_append, List.length_singleton]; omega⟩
  · rw [List.length_append]; have := h.le; omega
  · rw [hk, List.getElem?_append_left (by rw [List.length_map]; have := h.le; omega)] at e
    exact up (h.done i hi p e r' m' e')
  · rw [hk, List.getElem?_append_left (by rw [List.length_map]; exact hl)] at e
    by_cases q : i = j
    · subst q
      rw [hr] at hr'
      cases hr'
      rw [hk]
      exact List.mem_append_right _ (List.mem_singleton.mpr rfl)
    · exact up (h.cur p e i r' (by omega) hr' e')
  · have hw := h.len
    have hr3 := bfsJ_add (n := ps.length - a) hr hcu rfl hn
    rw [lsOf_of h.nd hf] at hr3
    exact (hr3.resolve_right (by omega)).trans h.run
theorem WyIn.next {ps : List Str} {es : List Ln} {s : Str} {a : Nat} {wy : List (Str × List Str)} (h : WyIn ps es s a es.length wy) (hl : a < wy.length) : WyIn ps es s (a + 1) 0 wy :=
  ⟨h.nd, h.sub, h.st, h.wk, hl, fun i hi p e r m e' => by
    by_cases q : i = a
    · subst q
      obtain ⟨k, hk, rfl⟩ := List.mem_iff_getElem.mp m
      exact h.cur p e k _ hk (List.getElem?_eq_getElem hk) e'
    · exact h.done i (by omega) p e r m e', fun _ _ _ _ z => absurd z (Nat.not_lt_zero _), by
    have hw := h.len
    have e1 : ps.length - a = ps.length - (a + 1) + 1 := by omega
    have h2 := h.run
    rw [e1, bfsJ_next (List.getElem?_eq_getElem (by rw [List.length_map]; exact hl))] at h2
    exact h2⟩
theorem WyIn.fin {ps : List Str} {es : List Ln} {s : Str} {j : Nat} {wy : List (Str × List Str)} (h : WyIn ps es s wy.length j wy) : WyOk ps es s wy := by
  refine ⟨(bfsJ_end (List.getElem?_eq_none (by rw [List.length_map]; exact Nat.le_refl _))).symm.trans h.run, h.nd, h.wk, fun p => ⟨fun q => ?_, fun q => ?_⟩⟩
  · obtain ⟨ls, hv⟩ := key_has q
    exact (h.wk _ _ hv).1.rch .refl
  · induction q with
    | refl => exact h.st
    | @step x r _ m e ih =>
      obtain ⟨i, hi⟩ := List.mem_iff_getElem?.mp ih
      have hlt := (List.getElem?_eq_some_iff.mp hi).1
      rw [List.length_map] at hlt
      exact h.done i hlt x hi r m e
theorem WyIn.ini {ps : List Str} {es : List Ln} {s : Str} (h : s ∈ ps) : WyIn ps es s 0 0 [(s, [])] := by
  refine ⟨List.nodup_cons.mpr ⟨List.not_mem_nil, List.nodup_nil⟩, fun p q => ?_, List.mem_singleton.mpr rfl, fun p ls q => ?_, Nat.zero_le _, fun i hi => absurd hi (Nat.not_lt_zero _), fun _ _ _ _ z => absurd z (Nat.not_lt_zero _), rfl⟩
  · rw [List.mem_singleton.mp q]; exact h
  · cases List.mem_singleton.mp q
    exact ⟨rfl, Nat.zero_le _⟩
def ct_law_ways (K : PySem.W.Frag) : Ct := Ct2 fun a b ka out => ∃ ps es s, a = .val (PtD ps es) ∧ b = .val (.str s) ∧ s ∈ ps ∧ (∀ r ∈ es, r.2.2 ∈ ps) ∧ ps.length ≤ 1000 ∧ es.length ≤ 50000 ∧ ka = [] ∧ out = fun o k => ∃ wy, o = .ret (.dic (wyD wy)) ∧ k = [] ∧ WyOk ps es s wy
section
variable {P : Program} {w : World} {K : PySem.W.Frag} {mg : Str → Option Value} {base : Heap}
theorem ok_law_ways (T : Tx K mg) : Fn P w K mg base 4 (He.ga K "_law_ways") ["_law_parts", "_law_start"] (ct_law_ways K) := by
  obtain ⟨fd, F⟩ := T.d_law_ways
  refine fn_ok F sc_law_ways (fun _ _ _ _ _ _ us hl => match us, hl with | [_, _], _ => rfl) ct2_len (fun cdv A outer s H E hr => ⟨_, (pss_cons (ps_set (i := 2) sc_law_ways.nd rfl (by first | exact Or.inl rfl | exact Or.inr rfl) (pe_disp (pps_cons (pv 1) (pe_lst pa_nil) pps_nil) rfl rfl (by simp) (by decide)))
      (pss_cons (ps_set (i := 3) sc_law_ways.nd rfl (by first | exact Or.inl rfl | exact Or.inr rfl) (pe_lst (pa_cons (pv 1) pa_nil)))
      (pss_cons (ps_set (i := 4) sc_law_ways.nd rfl (by first | exact Or.inl rfl | exact Or.inr rfl) pe_int)
      (pss_cons (ps_while (passes_of rfl) (pt_cmpR op_lt (pv 4) (pe_callB call_lenU rfl T.n_len (by decide +kernel) (pa_cons (pv 3) pa_nil)) (nomark _)) (pss_cons (ps_for (passes_of rfl) rfl (pi_seq (pe_ix ix_seq (pv 0) pe_int fun _ _ => rfl)) (pg_tup rfl (pgs_cons (pg_name (i := 5) sc_law_ways.nd rfl (by first | exact Or.inl rfl | exact Or.inr rfl)) (pgs_cons (pg_name (i := 6) sc_law_ways.nd rfl (by first | exact Or.inl rfl | exact Or.inr rfl)) (pgs_cons (pg_name (i := 7) sc_law_ways.nd rfl (by first | exact Or.inl rfl | exact Or.inr rfl)) pgs_nil)))) (pss_one (ps_if (PW.pt (pw_and (pt_cmpR (op_eqP (by have := (hr).units; exact this)) (pv 6) (pe_ix ix_seq (pv 3) (pv 4) fun _ _ => rfl) (nomark _)) (pw_and1 (pt_cmp (pc_dnotin (hu1 hr) (pv 7) (pv 2)) (by with_unfolding_all rfl)))))
      (pss_cons (ps_dput (hu1 hr) (pv 2) (pv 7) (pe_op op_addU (pe_dget (hu1 hr) (pv 2) (pv 6) fun _ _ => rfl) (pe_lst (pa_cons (pv 5) pa_nil))) rfl)
      (pss_one (ps_expr (pe_bm PySem.F.plainAttrs_list PySem.F.slot_list_append PySem.F.type_list_append mt_append (pv 3) (pa_cons (pv 7) pa_nil)))))
      pss_nil)))
      (pss_one (ps_set (i := 4) sc_law_ways.nd rfl (by first | exact Or.inl rfl | exact Or.inr rfl) (pe_op op_addU (pv 4) pe_int)))))
      (pss_one (ps_ret (pv 2))))))), fun ws ka out B F0 Q hC hR hX => ?_⟩)
  obtain ⟨a, b, rfl, ps, es, s, rfl, rfl, hs, hps, hl, hel, rfl, rfl⟩ := hC
  refine q_asgN (evn_disp1 (d := .lst []) (ev_var rfl) (evn_lst (ds := []) ea_nil (show 0 ≤ 100000 by decide)).lst) (fun a => ?_)
  refine q_asgN (evn_lst (ds := [.str s]) (ea1 (ev_var rfl)) (show 1 ≤ 100000 by decide)) (fun b => ?_)
  refine q_asg ev_int ?_
  refine q_while (fun m ro ka => ∃ (wy : List (Str × List Str)) (n : Nat) (v1 v2 v3 : Option W), ro = [some (.val (PtD ps es)), some (.val (.str s)), some (.val (.adr a)), some (.val (.adr b)), some (.val (.int n)), v1, v2, v3] ∧ ka = [(a, .dic (wyD wy)), (b, .lst (stD (keysT wy)))] ∧ WyIn ps es s n 0 wy ∧ m = ps.length - n)
    ps.length ⟨[(s, [])], 0, none, none, none, rfl, rfl, .ini hs, rfl⟩ (fun m ro2 ka2 ⟨wy, n, v1, v2, v3, e1, e2, hw, hm⟩ => ?_)
  subst e1 e2
  refine ⟨_, _, et_test (ev_lt (ev_var rfl) (ev_len (ev_var rfl) (.ce 1 rfl))), fun hb => ?_, fun hb => ?_⟩
  · rw [decide_eq_true_eq, stD_len, List.length_map] at hb
    have hlt : n < wy.length := by omega
    obtain ⟨cur, hcur⟩ : ∃ c, (keysT wy)[n]? = some c := ⟨_, List.getElem?_eq_getElem (by rw [List.length_map]; exact hlt)⟩
    refine q_forT (ei_map (ts := es) (f := rwL) (ev_ixV (ev_var rfl) ev_int .vl (atI_nat (j := 1) rfl))) (fun i ro ka => ∃ wy v1 v2 v3, ro = [some (.val (PtD ps es)), some (.val (.str s)), some (.val (.adr a)), some (.val (.adr b)), some (.val (.int n)), v1, v2, v3] ∧ ka = [(a, .dic (wyD wy)), (b, .lst (stD (keysT wy)))] ∧ WyIn ps es s n i wy ∧ n < wy.length ∧ (keysT wy)[n]? = some cur)
      ⟨wy, v1, v2, v3, rfl, rfl, hw, hlt, hcur⟩ (fun i ro ka _ => trivial) (fun i w ro2 ka2 ta' hw2 ⟨wy, v1, v2, v3, e1, e2, hw, hlt, hcur⟩ => ?_) (fun ro2 ka2 ta' ⟨wy, v1, v2, v3, e1, e2, hw, hlt, hcur⟩ hsub => ?_)
    · subst e1 e2
      rw [List.getElem?_map] at hw2
      obtain ⟨r, hr2, rfl⟩ := Option.map_eq_some_iff.mp hw2
      have hm2 := List.mem_of_getElem? hr2
      refine ⟨_, at_t3, g_if (et_and (et_test (ev_eqS (ev_var rfl) (ev_ixV (ev_var rfl) (ev_var rfl) (.ce 1 rfl) (atI_nat (stD_get hcur))))) fun _ => et_B ((ev_dni (ev_var rfl) (ev_var rfl) (.ce 0 rfl)).to (by rw [show wyD wy = tbD _ wy from rfl, tb_in]))) (fun hb => ?_) (fun hb => g_next (g_jp ⟨wy, _, _, _, rfl, rfl, hw.skip hr2 fun p hp e => ?_, hlt, hcur⟩))⟩
      · rw [Bool.and_eq_true, beq_iff_eq, Bool.not_eq_true', decide_eq_false_iff_not] at hb
        obtain ⟨h1, h2⟩ := hb
        have hm3 : r.2.1 ∈ keysT wy := by rw [h1]; exact List.mem_of_getElem? hcur
        obtain ⟨ls, hls⟩ := key_has hm3
        have hb2 : wy.length < 1001 := by have := hw.len; omega
        have hll := (hw.wk _ _ hls).2
        refine q_dput (j := 0) (d := .lst (stD (ls ++ [r.1]))) ((evn_op (ev_dgetV (d := .lst (stD ls)) (ev_var rfl) (ev_var rfl) (.ce 0 rfl) (tb_get hw.nd hls)) (evn_lst (ds := [.str r.1]) (ea1 (ev_var rfl)) (show 1 ≤ 100000 by decide)).lst (rvn_cat (b1 := false) (b2 := false) .vl .vl (by rw [stD_len, List.length_singleton]; omega))).lst.to (congrArg (fun z => W.val (.lst z)) (stD_app ls [r.1]))) (ev_var rfl) (ev_var rfl) rfl (by rw [show wyD wy = tbD _ wy from rfl, tbD_len]; omega) ?_
        refine g_app (j0 := 1) (j := 1) (d := .str r.2.2) (ev_var rfl) rfl (ev_var rfl) rfl (by rw [stD_len, List.length_map]; omega) (g_jp ⟨wy ++ [(r.2.2, ls ++ [r.1])], _, _, _, rfl, ?_, hw.add hr2 hls (h1 ▸ hcur) h2 (hps r hm2) hlt, by rw [List.length_append]; omega, ?_⟩)
        · have e5 : putT (wyD wy) (.inr r.2.2) (.lst (stD (ls ++ [r.1]))) = wyD (wy ++ [(r.2.2, ls ++ [r.1])]) := tb_put (f := fun ls => .lst (stD ls)) h2
          have e6 : stD (keysT (wy ++ [(r.2.2, ls ++ [r.1])])) = stD (keysT wy) ++ [.str r.2.2] := by rw [keys_app, ← stD_app]; rfl
          rw [e6, ← e5]
          rfl
        · rw [keys_app, List.getElem?_append_left (by rw [List.length_map]; exact hlt)]
          exact hcur
      · rw [hcur] at hp
        cases hp
        rw [Bool.and_eq_false_iff, beq_eq_false_iff_ne, Bool.not_eq_false', decide_eq_true_eq] at hb
        rcases hb with hb | hb
        · exact absurd e hb
        · exact hb
    · subst e1 e2
      rw [List.length_map] at hw
      have hb2 : wy.length ≤ ps.length := hw.len
      exact g_asg (ev_addI (ev_var rfl) ev_int) (g_jpH hsub ⟨ps.length - (n + 1), by omega, wy, n + 1, _, _, _, rfl, rfl, hw.next hlt, rfl⟩)
  · rw [decide_eq_false_iff_not, stD_len, List.length_map] at hb
    have hle := hw.le
    have hn : n = wy.length := by omega
    subst hn
    exact Gp.frzK (kr := [(b, .lst (stD (keysT wy)))]) (i := 2) rfl (List.Perm.swap _ _ _) (Gp.less (k1 := []) (g_ret hR (ev_var rfl) ⟨wy, rfl, rfl, hw.fin⟩) (List.nil_sublist _))
end
/-- the search, run to its end -/
theorem wy_lanes {ps : List Str} {es : List Ln} {s : Str} (hps : ∀ r ∈ es, r.2.2 ∈ ps) {a : Nat} : ∀ (k j : Nat) (wy : List (Str × List Str)), k = es.length - j → j ≤ es.length → WyIn ps es s a j wy → a < wy.length → ∃ wy', WyIn ps es s a es.length wy' ∧ a < wy'.length
  | 0, j, wy, hk, hj, h, hl => by
    obtain rfl : j = es.length := by omega
    exact ⟨wy, h, hl⟩
  | k + 1, j, wy, hk, hj, h, hl => by
    have hjl : j < es.length := by omega
    have hr : es[j]? = some es[j] := List.getElem?_eq_getElem hjl
    obtain ⟨cur, hcur⟩ : ∃ c, (keysT wy)[a]? = some c := ⟨_, List.getElem?_eq_getElem (by rw [List.length_map]; exact hl)⟩
    by_cases hc : es[j].2.1 = cur ∧ ¬ es[j].2.2 ∈ keysT wy
    · have hm : es[j].2.1 ∈ keysT wy := by rw [hc.1]; exact List.mem_of_getElem? hcur
      obtain ⟨ls, hls⟩ := key_has hm
      exact wy_lanes hps k (j + 1) _ (by omega) hjl (h.add hr hls (hc.1 ▸ hcur) hc.2 (hps _ (List.getElem_mem hjl)) hl) (by rw [List.length_append]; omega)
    · refine wy_lanes hps k (j + 1) wy (by omega) hjl (h.skip hr fun p hp e => ?_) hl
      rw [hcur] at hp
      cases hp
      exact Classical.byContradiction fun z => hc ⟨e, z⟩
theorem wy_run {ps : List Str} {es : List Ln} {s : Str} (hps : ∀ r ∈ es, r.2.2 ∈ ps) : ∀ (k a : Nat) (wy : List (Str × List Str)), k = ps.length - a → WyIn ps es s a 0 wy → WyOk ps es s (wyAll ps es s)
  | k, a, wy, hk, h => by
    by_cases hl : a < wy.length
    · obtain ⟨wy', h', hl'⟩ := wy_lanes hps es.length 0 wy rfl (Nat.zero_le _) h hl
      have hlen := h'.len
      match k, hk with
      | 0, hk => omega
      | k + 1, hk => exact wy_run hps k (a + 1) wy' (by omega) (h'.next hl')
    · have := h.le
      obtain rfl : a = wy.length := by omega
      have := h.fin
      rwa [← this.eq]
theorem wyAll_ok {ps : List Str} {es : List Ln} {s : Str} (hs : s ∈ ps) (hps : ∀ r ∈ es, r.2.2 ∈ ps) : WyOk ps es s (wyAll ps es s) := wy_run hps ps.length 0 _ rfl (.ini hs)
theorem stD_inj : ∀ {xs ys : List Str}, stD xs = stD ys → xs = ys
  | [], [], _ => rfl
  | [], _ :: _, h => by cases h
  | _ :: _, [], h => by cases h
  | x :: xs, y :: ys, h => by
    have h1 := List.cons.inj h
    rw [D.str.inj h1.1, stD_inj h1.2]
/-- the way that the search finds -/
def wyL (ps : List Str) (es : List Ln) (p q : Str) : List Str := match (wyAll ps es p).find? fun kv => decide (kv.1 = q) with
  | some kv => kv.2
  | none => []
theorem wyL_ok {ps : List Str} {es : List Ln} {p q : Str} (hp : p ∈ ps) (hps : ∀ r ∈ es, r.2.2 ∈ ps) (h : Rch es p q) : getD? (wyD (wyAll ps es p)) q = .lst (stD (wyL ps es p q)) ∧ Wk es p (wyL ps es p q) q ∧ (wyL ps es p q).length ≤ ps.length := by
  have ok := wyAll_ok hp hps
  have hk := (ok.all q).mpr h
  obtain ⟨ls, hls⟩ := key_has hk
  have e : wyL ps es p q = ls := by
    unfold wyL
    cases hf : (wyAll ps es p).find? fun kv => decide (kv.1 = q) with
    | none =>
      have := List.find?_eq_none.mp hf _ hls
      exact absurd (decide_eq_true rfl) this
    | some kv =>
      have h1 := List.mem_of_find?_eq_some hf
      have h2 : kv.1 = q := of_decide_eq_true (p := kv.1 = q) (List.find?_some (p := fun kv : Str × List Str => decide (kv.1 = q)) hf)
      have g1 := tb_get (f := fun ls => D.lst (stD ls)) ok.nd (show (q, kv.2) ∈ wyAll ps es p by rw [← h2]; exact h1)
      have g2 := tb_get (f := fun ls => D.lst (stD ls)) ok.nd hls
      rw [g1] at g2
      exact stD_inj (D.lst.inj (Option.some.inj g2))
  rw [e]
  refine ⟨?_, (ok.wk q ls hls).1, ?_⟩
  · unfold getD?
    rw [show getT (wyD (wyAll ps es p)) (.inr q) = some (.lst (stD ls)) from tb_get ok.nd hls]
    rfl
  · have h1 := (ok.wk q ls hls).2
    have h2 := sub_len ok.nd (ys := ps) fun x hx => by
      cases (ok.all x).mp hx with
      | refl => exact hp
      | step _ m e => exact hps _ m
    rw [List.length_map] at h2
    omega
/-- a wanted lane, and the way to the next one -/
def pieceL (ps : List Str) (es : List Ln) (gs : List Str) (i : Nat) : List Str := gs.getD i "" :: wyL ps es (enO es (gs.getD i "")) (stO es (gs.getD ((i + 1) % gs.length) ""))
def twL (ps : List Str) (es : List Ln) (gs : List Str) (n : Nat) : List Str := ((List.range n).map (pieceL ps es gs)).flatten
theorem twL_snoc (ps : List Str) (es : List Ln) (gs : List Str) (n : Nat) : twL ps es gs (n + 1) = twL ps es gs n ++ pieceL ps es gs n := by
  unfold twL
  rw [List.range_succ, List.map_append, List.flatten_append]
  simp
structure TwOk (ps : List Str) (es : List Ln) (gs : List Str) : Prop where
  ne : gs ≠ []
  gl : gs.length ≤ 100
  gm : ∀ g ∈ gs, g ∈ lnN es
  nd : (lnN es).Nodup
  st : ∀ r ∈ es, r.2.1 ∈ ps ∧ r.2.2 ∈ ps
  rc : ∀ r ∈ es, ∀ r' ∈ es, Rch es r.2.2 r'.2.1
  pl : ps.length ≤ 900
  el : es.length ≤ 50000
theorem TwOk.row {ps : List Str} {es : List Ln} {gs : List Str} (h : TwOk ps es gs) {i : Nat} (hi : i < gs.length) : ∃ r ∈ es, gs[i]? = some r.1 ∧ gs.getD i "" = r.1 := by
  obtain ⟨r, hr, e⟩ := List.mem_map.mp (h.gm gs[i] (List.getElem_mem hi))
  exact ⟨r, hr, by rw [List.getElem?_eq_getElem hi, e], by rw [List.getD_eq_getElem?_getD, List.getElem?_eq_getElem hi, ← e]; rfl⟩
theorem TwOk.piece {ps : List Str} {es : List Ln} {gs : List Str} (h : TwOk ps es gs) {i : Nat} (hi : i < gs.length) : ∃ r ∈ es, ∃ r' ∈ es, gs[i]? = some r.1 ∧ gs[(i + 1) % gs.length]? = some r'.1 ∧ pieceL ps es gs i = r.1 :: wyL ps es r.2.2 r'.2.1 ∧ getD? (wyD (wyAll ps es r.2.2)) r'.2.1 = .lst (stD (wyL ps es r.2.2 r'.2.1)) ∧ Wk es r.2.2 (wyL ps es r.2.2 r'.2.1) r'.2.1 ∧ (wyL ps es r.2.2 r'.2.1).length ≤ ps.length := by
  have hp : 0 < gs.length := by omega
  obtain ⟨r, m, e1, e2⟩ := h.row hi
  obtain ⟨r', m', e3, e4⟩ := h.row (Nat.mod_lt (i + 1) hp)
  obtain ⟨w1, w2, w3⟩ := wyL_ok (h.st r m).2 (fun x hx => (h.st x hx).2) (h.rc r m r' m')
  refine ⟨r, m, r', m', e1, e3, ?_, w1, w2, w3⟩
  unfold pieceL
  rw [e2, e4, enO_eq h.nd m, stO_eq h.nd m']
theorem TwOk.len {ps : List Str} {es : List Ln} {gs : List Str} (h : TwOk ps es gs) : ∀ i, i ≤ gs.length → (twL ps es gs i).length ≤ i * (1 + ps.length)
  | 0, _ => Nat.zero_le _
  | i + 1, hi => by
    obtain ⟨r, m, r', m', _, _, e, _, _, l⟩ := h.piece (show i < gs.length by omega)
    have := TwOk.len h i (by omega)
    rw [twL_snoc, List.length_append, e, List.length_cons, Nat.add_mul, Nat.one_mul]
    omega
/-! ### what a post reaches -/
open Classical in
/-- the posts that s reaches, in order -/
noncomputable def rchL (ps : List Str) (es : List Ln) (s : Str) : List Str := ps.filter fun p => decide (Rch es s p)
structure FdOk (ps : List Str) (es : List Ln) (s : Str) (fs : List Str) : Prop where
  nd : fs.Nodup
  sub : ∀ p ∈ fs, p ∈ ps
  st : s ∈ fs
  rc : ∀ p ∈ fs, Rch es s p
theorem FdOk.add {ps : List Str} {es : List Ln} {s : Str} {fs : List Str} (h : FdOk ps es s fs) {r : Ln} (m : r ∈ es) (h1 : r.2.1 ∈ fs) (h2 : ¬ r.2.2 ∈ fs) (hp : r.2.2 ∈ ps) : FdOk ps es s (fs ++ [r.2.2]) := by
  refine ⟨?_, fun p q => ?_, List.mem_append_left _ h.st, fun p q => ?_⟩
  · rw [List.nodup_append]
    refine ⟨h.nd, List.nodup_cons.mpr ⟨List.not_mem_nil, List.nodup_nil⟩, fun x hx y hy z => h2 ?_⟩
    rw [List.mem_singleton.mp hy] at z
    rw [← z]; exact hx
  · rcases List.mem_append.mp q with q | q
    · exact h.sub p q
    · rw [List.mem_singleton.mp q]; exact hp
  · rcases List.mem_append.mp q with q | q
    · exact h.rc p q
    · rw [List.mem_singleton.mp q]; exact .step (h.rc _ h1) m rfl
theorem FdOk.fin {ps : List Str} {es : List Ln} {s : Str} {fs : List Str} (h : FdOk ps es s fs) (c : ∀ r ∈ es, r.2.1 ∈ fs → r.2.2 ∈ fs) : ps.filter (fun p => decide (p ∈ fs)) = rchL ps es s := by
  unfold rchL
  refine List.filter_congr fun p hp => ?_
  clear hp
  refine decide_eq_decide.mpr ⟨h.rc p, fun q => ?_⟩
  induction q with
  | refl => exact h.st
  | step _ m e ih => exact c _ m (by rw [e]; exact ih)
/-! ### parts, as told -/
noncomputable def mutL (ps : List Str) (es : List Ln) (p : Str) : List Str := (rchL ps es p).filter fun q => decide (p ∈ rchL ps es q)
def innL (es : List Ln) (qs : List Str) : List Str := lnN (es.filter fun r => decide (r.2.1 ∈ qs) && decide (r.2.2 ∈ qs))
theorem rchL_len (ps : List Str) (es : List Ln) (p : Str) : (rchL ps es p).length ≤ ps.length := List.length_filter_le _ _
theorem mutL_len (ps : List Str) (es : List Ln) (p : Str) : (mutL ps es p).length ≤ ps.length := Nat.le_trans (List.length_filter_le _ _) (rchL_len ps es p)
open Classical in
theorem mutL_eq (ps : List Str) (es : List Ln) (p : Str) (hp : p ∈ ps) : ps.filter (fun q => decide (Rch es p q) && decide (Rch es q p)) = mutL ps es p := by
  unfold mutL
  rw [rchL, List.filter_filter]
  refine List.filter_congr fun q _ => ?_
  rw [Bool.and_comm]
  congr 1
  refine decide_eq_decide.mpr ?_
  unfold rchL
  rw [List.mem_filter, decide_eq_true_eq]
  exact ⟨fun h => ⟨hp, h⟩, fun h => h.2⟩
/-- the lanes within some posts -/
def innR (es : List Ln) (qs : List Str) : List Ln := es.filter fun r => decide (r.2.1 ∈ qs) && decide (r.2.2 ∈ qs)
theorem Rch.trans {es : List Ln} {p q z : Str} (a : Rch es p q) (b : Rch es q z) : Rch es p z := by
  induction b with
  | refl => exact a
  | step _ m e ih => exact .step ih m e
theorem Wk.rows {es : List Ln} {q : Str} : ∀ {ls : List Str} {p : Str}, Wk es p ls q → ∀ l ∈ ls, ∃ r ∈ es, r.1 = l ∧ Rch es p r.2.1 ∧ Rch es r.2.2 q
  | [], _, _, l, h => by cases h
  | x :: ls, p, ⟨r, m, e1, e2, h⟩, l, hl => by
    rcases List.mem_cons.mp hl with rfl | hl
    · exact ⟨r, m, e1, e2 ▸ .refl, Wk.rch .refl h⟩
    · obtain ⟨r', m', e1', a, b⟩ := Wk.rows h l hl
      exact ⟨r', m', e1', (Rch.step (x := p) .refl m e2).trans a, b⟩
theorem Wk.first {es : List Ln} {p q l : Str} {ls : List Str} (h : Wk es p (l :: ls) q) : ∃ r ∈ es, r.1 = l ∧ r.2.1 = p := let ⟨r, m, e1, e2, _⟩ := h; ⟨r, m, e1, e2⟩
/-- one reaches the other, both ways -/
def Mt (es : List Ln) (p q : Str) : Prop := Rch es p q ∧ Rch es q p
theorem mem_mutL {ps : List Str} {es : List Ln} {p q : Str} (hp : p ∈ ps) : q ∈ mutL ps es p ↔ q ∈ ps ∧ Mt es p q := by
  classical
  rw [← mutL_eq ps es p hp, List.mem_filter, Bool.and_eq_true]
  constructor
  · rintro ⟨a, b, c⟩
    exact ⟨a, of_decide_eq_true b, of_decide_eq_true c⟩
  · rintro ⟨a, b, c⟩
    exact ⟨a, decide_eq_true b, decide_eq_true c⟩
theorem ln_uniq {es : List Ln} (hn : (lnN es).Nodup) {r r' : Ln} (h : r ∈ es) (h' : r' ∈ es) (e : r.1 = r'.1) : r = r' := by
  obtain ⟨i, hi⟩ := List.mem_iff_getElem?.mp h
  obtain ⟨j, hj⟩ := List.mem_iff_getElem?.mp h'
  have hij : i = j := by
    have h1 := lnN_at hi
    have h2 := lnN_at hj
    rw [e] at h1
    exact (List.getElem?_inj (List.getElem?_eq_some_iff.mp h1).1 hn).mp (h1.trans h2.symm)
  subst hij
  rw [hi] at hj
  exact Option.some.inj hj
theorem Wk.mono {es fs : List Ln} (h : ∀ r ∈ es, r ∈ fs) {q : Str} : ∀ {ls : List Str} {p : Str}, Wk es p ls q → Wk fs p ls q
  | [], _, e => e
  | _ :: _, _, ⟨r, m, e1, e2, w⟩ => ⟨r, h r m, e1, e2, Wk.mono h w⟩
theorem Wk.app {es : List Ln} {q z : Str} {ms : List Str} : ∀ {ls : List Str} {p : Str}, Wk es p ls q → Wk es q ms z → Wk es p (ls ++ ms) z
  | [], _, e, w => by
    obtain rfl := e
    exact w
  | _ :: _, _, ⟨r, m, e1, e2, w⟩, w2 => ⟨r, m, e1, e2, Wk.app w w2⟩
/-- the rows along a walk -/
theorem wk_at {es : List Ln} {q : Str} : ∀ {ls : List Str} {p : Str}, Wk es p ls q → ∀ {i : Nat} {x : Str}, ls[i]? = some x → ∃ r ∈ es, r.1 = x ∧ (i = 0 → r.2.1 = p) ∧ (i + 1 = ls.length → r.2.2 = q) ∧ ∀ y, ls[i + 1]? = some y → ∃ r' ∈ es, r'.1 = y ∧ r'.2.1 = r.2.2
  | [], _, _, i, x, h => by simp at h
  | l :: t, p, ⟨r, m, e1, e2, w⟩, 0, x, h => by
    cases h
    refine ⟨r, m, e1, fun _ => e2, fun z => ?_, fun y hy => ?_⟩
    · cases t with
      | nil => exact w
      | cons _ _ => simp at z
    · cases t with
      | nil => simp at hy
      | cons y2 t2 =>
        cases hy
        obtain ⟨r', m', e3, e4, _⟩ := w
        exact ⟨r', m', e3, e4⟩
  | l :: t, p, ⟨r, m, e1, e2, w⟩, i + 1, x, h => by
    obtain ⟨r', m', a1, a2, a3, a4⟩ := wk_at w (i := i) (x := x) (by simpa using h)
    refine ⟨r', m', a1, fun z => by omega, fun z => a3 (by rw [List.length_cons] at z; omega), fun y hy => a4 y (by simpa using hy)⟩
theorem getD_at {ls : List Str} {i : Nat} (h : i < ls.length) : ls[i]? = some (ls.getD i "") := by
  rw [List.getD_eq_getElem?_getD, List.getElem?_eq_getElem h]
  rfl
theorem Rch.mono {es fs : List Ln} (h : ∀ r ∈ es, r ∈ fs) {p q : Str} (a : Rch es p q) : Rch fs p q := by
  induction a with
  | refl => exact .refl
  | step _ m e ih => exact .step ih (h _ m) e
/-- within a part one gets along by inner lanes -/
theorem rch_in {ps : List Str} {es : List Ln} (hst : ∀ r ∈ es, r.2.1 ∈ ps ∧ r.2.2 ∈ ps) {s p q : Str} (hs : s ∈ ps) (hp : p ∈ mutL ps es s) (hq : q ∈ mutL ps es s) (h : Rch es p q) : Rch (innR es (mutL ps es s)) p q := by
  obtain ⟨_, hp1, hp2⟩ := (mem_mutL hs).mp hp
  obtain ⟨_, hq1, hq2⟩ := (mem_mutL hs).mp hq
  have key : ∀ x, Rch es p x → Rch es x q → Rch (innR es (mutL ps es s)) p x := by
    intro x hx
    induction hx with
    | refl => exact fun _ => .refl
    | @step x r a m e ih =>
      intro hq'
      subst e
      have st : Rch es r.2.1 r.2.2 := .step .refl m rfl
      have b := ih (st.trans hq')
      have m1 : r.2.1 ∈ mutL ps es s := (mem_mutL hs).mpr ⟨(hst r m).1, hp1.trans a, (st.trans hq').trans hq2⟩
      have m2 : r.2.2 ∈ mutL ps es s := (mem_mutL hs).mpr ⟨(hst r m).2, hp1.trans (a.trans st), hq'.trans hq2⟩
      exact .step b (List.mem_filter.mpr ⟨m, by rw [decide_eq_true m1, decide_eq_true m2]; rfl⟩) rfl
  exact key q h .refl
theorem Rch.out {es : List Ln} {p q : Str} (h : Rch es p q) : p = q ∨ ∃ r ∈ es, r.2.1 = p := by
  induction h with
  | refl => exact .inl rfl
  | @step x r _ m e ih =>
    rcases ih with ih | ih
    · exact .inr ⟨r, m, by rw [e, ih]⟩
    · exact .inr ih
theorem inn_iff {es : List Ln} (hn : (lnN es).Nodup) {qs : List Str} {r : Ln} (m : r ∈ es) : r.1 ∈ innL es qs ↔ r.2.1 ∈ qs ∧ r.2.2 ∈ qs := by
  unfold innL lnN
  rw [List.mem_map]
  constructor
  · rintro ⟨r', m', e⟩
    obtain ⟨h1, h2⟩ := List.mem_filter.mp m'
    obtain rfl := ln_uniq hn h1 m e
    rwa [Bool.and_eq_true, decide_eq_true_eq, decide_eq_true_eq] at h2
  · rintro ⟨h1, h2⟩
    exact ⟨r, List.mem_filter.mpr ⟨m, by rw [decide_eq_true h1, decide_eq_true h2]; rfl⟩, rfl⟩
theorem inn_filt {es : List Ln} (hn : (lnN es).Nodup) (qs : List Str) : (es.filter fun r => decide (r.1 ∈ innL es qs)) = innR es qs := List.filter_congr fun r m => by
  rw [Bool.eq_iff_iff, decide_eq_true_eq, Bool.and_eq_true, decide_eq_true_eq, decide_eq_true_eq]
  exact inn_iff hn m
/-- each post of the part has a lane within it -/
theorem part_out {ps : List Str} {es : List Ln} (hst : ∀ r ∈ es, r.2.1 ∈ ps ∧ r.2.2 ∈ ps) {s p : Str} (hs : s ∈ ps) {r0 : Ln} (h0 : r0 ∈ innR es (mutL ps es s)) (hp : p ∈ mutL ps es s) : ∃ r ∈ innR es (mutL ps es s), r.2.1 = p := by
  have h1 := (List.mem_filter.mp h0).2
  rw [Bool.and_eq_true, decide_eq_true_eq, decide_eq_true_eq] at h1
  obtain ⟨_, a1, a2⟩ := (mem_mutL hs).mp hp
  obtain ⟨_, b1, b2⟩ := (mem_mutL hs).mp h1.1
  rcases (rch_in hst hs hp h1.1 (a2.trans b1)).out with e | e
  · exact ⟨r0, h0, e.symm⟩
  · exact e
theorem inn_mem {es : List Ln} {qs : List Str} {r : Ln} (h : r ∈ innR es qs) : r ∈ es ∧ r.2.1 ∈ qs ∧ r.2.2 ∈ qs := by
  obtain ⟨h1, h2⟩ := List.mem_filter.mp h
  rw [Bool.and_eq_true, decide_eq_true_eq, decide_eq_true_eq] at h2
  exact ⟨h1, h2⟩
/-- the lanes that leave p -/
def outL (es : List Ln) (p : Str) : List Str := lnN (es.filter fun r => decide (r.2.1 = p))
theorem outL_mem {es : List Ln} {p l : Str} (h : l ∈ outL es p) : ∃ r ∈ es, r.1 = l ∧ r.2.1 = p := by
  obtain ⟨r, m, e⟩ := List.mem_map.mp h
  obtain ⟨h1, h2⟩ := List.mem_filter.mp m
  exact ⟨r, h1, e, of_decide_eq_true h2⟩
theorem outL_ne {es : List Ln} {p : Str} (h : ∃ r ∈ es, r.2.1 = p) : outL es p ≠ [] := fun z => by
  obtain ⟨r, m, e⟩ := h
  have : r.1 ∈ outL es p := List.mem_map.mpr ⟨r, List.mem_filter.mpr ⟨m, decide_eq_true e⟩, rfl⟩
  rw [z] at this
  cases this
theorem outL_len (es : List Ln) (p : Str) : (outL es p).length ≤ es.length := by
  unfold outL
  rw [lnN_len]
  exact List.length_filter_le _ _
theorem ev_way {K : PySem.W.Frag} {ro : Ro} {ka k1 k2 k3 : Cells} {te tf tg : TE} {E : XK} {ps : List Str} {is : List Ln} {p q : Str} (h1 : EvD K te ro ka (.val (PtD ps is)) k1) (h2 : EvD K tf ro k1 (.val (.str p)) k2) (h3 : EvD K tg ro k2 (.val (.str q)) k3) (hp : p ∈ ps) (hps : ∀ r ∈ is, r.2.2 ∈ ps) (h : Rch is p q) (hl : ps.length ≤ 1000) (hi : is.length ≤ 50000) :
    EvD K (tDGet (tCall (spC K (ct_law_ways K)) [] E (tCons te (tCons tf tNil))) tg) ro ka (.val (.lst (stD (wyL ps is p q)))) k3 := by
  have ok := wyAll_ok hp hps
  obtain ⟨ls, hls⟩ := key_has ((ok.all q).mpr h)
  have g := tb_get (f := fun ls => D.lst (stD ls)) ok.nd hls
  have e := (wyL_ok hp hps h).1
  unfold getD? at e
  rw [show getT (wyD (wyAll ps is p)) (.inr q) = some (.lst (stD ls)) from g] at e
  have e2 : D.lst (stD ls) = .lst (stD (wyL ps is p q)) := e
  rw [e2] at g
  refine ev_dgetV (d := .lst (stD (wyL ps is p q))) (EvR.d (evr_call (k1 := []) k2 (ea2 h1 h2) ⟨_, _, rfl, ps, is, p, rfl, rfl, hp, hps, hl, hi, rfl, rfl⟩ (fun o k ⟨wy, h, _⟩ => ⟨_, h⟩)) fun w' k ⟨d, k3, ⟨wy, e1, e2, e3⟩, e4, e5⟩ => ?_) h3 (.v (ds := wyD (wyAll ps is p))) g
  cases e1
  subst e2 e4 e5
  rw [e3.eq]
  exact ⟨rfl, rfl⟩
def ct_law_hidden (K : PySem.W.Frag) : Ct := Ct4 fun x y z v ka out => ∃ a p n ps es s ws, x = .val (.adr a) ∧ y = .val (PtD ps es) ∧ z = .val (.lst [.lst (stD (mutL ps es s)), .lst (stD (innL es (mutL ps es s)))]) ∧ v = .val (.lst (stD ws)) ∧ ka = [(a, .lst (Pl.ds p))] ∧ p.Ok n ∧ 0 ≤ n ∧ n ≤ 800000 ∧
  s ∈ ps ∧ (∀ r ∈ es, r.2.1 ∈ ps ∧ r.2.2 ∈ ps) ∧ (lnN es).Nodup ∧ ps.length ≤ 100 ∧ es.length ≤ 400 ∧ ws ≠ [] ∧ ws.length ≤ 100 ∧ (∀ w ∈ ws, w ∈ innL es (mutL ps es s)) ∧
  out = fun o k => ∃ b ls q p', o = .ret (.adr b) ∧ k = [(a, .lst (Pl.ds p')), (b, .lst (stD ls))] ∧ p'.Ok (n + 8 * (ws.length + 1)) ∧ q ∈ mutL ps es s ∧ Wk (innR es (mutL ps es s)) q ls q ∧ (∀ w ∈ ws, w ∈ ls) ∧ ls.length ≤ (ws.length + 1) * (7 + ps.length)
section
variable {P : Program} {w : World} {K : PySem.W.Frag} {mg : Str → Option Value} {base : Heap}
theorem ok_law_hidden (T : Tx K mg) (F_law_take : Fn P w K mg base 4 (He.ga K "_law_take") ["_law_pool_here", "_law_many"] (ct_law_take K)) (F_law_mixed : Fn P w K mg base 6 (He.ga K "_law_mixed") ["_law_pool_here", "_law_things"] (ct_law_mixed K)) (F_law_ends : Fn P w K mg base 4 (He.ga K "_law_ends") ["_law_parts"] (ct_law_ends K)) (F_law_ways : Fn P w K mg base 4 (He.ga K "_law_ways") ["_law_parts", "_law_start"] (ct_law_ways K)) : Fn P w K mg base 8 (He.ga K "_law_hidden") ["_law_pool_here", "_law_parts", "_law_part", "_law_wanted"] (ct_law_hidden K) := by
  obtain ⟨fd, F⟩ := T.d_law_hidden
  refine fn_ok F sc_law_hidden (fun _ _ _ _ _ _ us hl => match us, hl with | [_, _, _, _], _ => rfl) ct4_len (fun cdv A outer s H E hr => ⟨_, (pss_cons (ps_set (i := 4) sc_law_hidden.nd rfl (by first | exact Or.inl rfl | exact Or.inr rfl) (pe_call (F_law_ends.up (by decide)).ok hr rfl T.g_law_ends.1 T.g_law_ends.2 (F_law_ends.up (by decide)).bn .nil (pass_own rfl rfl rfl rfl) (pa_cons (pv 1) pa_nil)))
      (pss_cons (ps_set (i := 6) sc_law_hidden.nd rfl (by first | exact Or.inl rfl | exact Or.inr rfl) (pe_lst (pa_cons (pe_ix ix_seq (pv 1) pe_int fun _ _ => rfl) (pa_cons (pe_lc (te := (tVar 5)) (tt := (tTest (tOp (rInU K) (tOp (rIx K) (tVar 5) (tC (.int 0))) (tOp (rIx K) (tVar 2) (tC (.int 1)))))) (own := [("_law_row", 5)]) rfl sc_law_hidden.nd (pi_seq (pe_ix ix_seq (pv 1) pe_int fun _ _ => rfl)) (blk_ok ["_law_pool_here", "_law_parts", "_law_part", "_law_wanted", "_law_ends_here", "_law_row", "_law_inner", "_law_start", "_law_here", "_law_tour", "_law_lane", "_law_turn", "_law_out", "_law_step", "_law_goal"] (defScope s_law_hidden) rfl rfl (by decide +kernel)) (fun _ _ _ _ _ => (pg_name (i := 5) sc_law_hidden.nd rfl (by first | exact Or.inl rfl | exact Or.inr rfl))) (fun _ _ _ _ _ => (pts_one (pt_cmpR op_inU (pe_ix ix_seq (pv 5) pe_int fun _ _ => rfl) (pe_ix ix_seq (pv 2) pe_int fun _ _ => rfl) (by with_unfolding_all rfl)))) (fun _ _ _ _ _ => (pv 5))) pa_nil))))
      (pss_cons (ps_set (i := 7) sc_law_hidden.nd rfl (by first | exact Or.inl rfl | exact Or.inr rfl) (pe_ix ix_seq (pe_ix ix_seq (pv 2) pe_int fun _ _ => rfl) (pe_call (F_law_take.up (by decide)).ok hr rfl T.g_law_take.1 T.g_law_take.2 (F_law_take.up (by decide)).bn .nil (pass_own rfl rfl rfl rfl) (pa_cons (pv 0) (pa_cons (pe_callB call_lenU rfl T.n_len (by decide +kernel) (pa_cons (pe_ix ix_seq (pv 2) pe_int fun _ _ => rfl) pa_nil)) pa_nil))) fun _ _ => rfl))
      (pss_cons (ps_set (i := 8) sc_law_hidden.nd rfl (by first | exact Or.inl rfl | exact Or.inr rfl) (pv 7))
      (pss_cons (ps_set (i := 9) sc_law_hidden.nd rfl (by first | exact Or.inl rfl | exact Or.inr rfl) (pe_lst pa_nil))
      (pss_cons (ps_for (passes_of rfl) rfl (pi_seq (pe_op op_addU (pe_call (F_law_mixed.up (by decide)).ok hr rfl T.g_law_mixed.1 T.g_law_mixed.2 (F_law_mixed.up (by decide)).bn .nil (pass_own rfl rfl rfl rfl) (pa_cons (pv 0) (pa_cons (pe_callTy call_lstU rfl T.n_list (by decide +kernel) (pa_cons (pv 3) pa_nil)) pa_nil))) (pe_lst (pa_cons pe_non pa_nil)))) (pg_name (i := 10) sc_law_hidden.nd rfl (by first | exact Or.inl rfl | exact Or.inr rfl)) (pss_cons (ps_for (passes_of rfl) rfl (pi_range1 rfl T.n_range (pa_cons (pe_call (F_law_take.up (by decide)).ok hr rfl T.g_law_take.1 T.g_law_take.2 (F_law_take.up (by decide)).bn .nil (pass_own rfl rfl rfl rfl) (pa_cons (pv 0) (pa_cons pe_int pa_nil))) pa_nil)) (pg_name (i := 11) sc_law_hidden.nd rfl (by first | exact Or.inl rfl | exact Or.inr rfl)) (pss_cons (ps_setLc (i := 12) (te := (tOp (rIx K) (tVar 5) (tC (.int 0)))) (tt := (tTest (tOp (rEqP K false) (tOp (rIx K) (tVar 5) (tC (.int 1))) (tVar 8)))) (own := [("_law_row", 5)]) rfl sc_law_hidden.nd rfl rfl rfl (pi_seq (pe_ix ix_seq (pv 6) pe_int fun _ _ => rfl)) (blk_ok ["_law_pool_here", "_law_parts", "_law_part", "_law_wanted", "_law_ends_here", "_law_row", "_law_inner", "_law_start", "_law_here", "_law_tour", "_law_lane", "_law_turn", "_law_out", "_law_step", "_law_goal"] (defScope s_law_hidden) rfl rfl (by decide +kernel)) (fun _ _ _ _ _ => (pg_name (i := 5) sc_law_hidden.nd rfl (by first | exact Or.inl rfl | exact Or.inr rfl))) (fun _ _ _ _ _ => (pts_one (pt_cmpR (op_eqP (by have := (hr).units; exact this)) (pe_ix ix_seq (pv 5) pe_int fun _ _ => rfl) (pv 8) (nomark _)))) (fun _ _ _ _ _ => (pe_ix ix_seq (pv 5) pe_int fun _ _ => rfl)))
      (pss_cons (ps_set (i := 13) sc_law_hidden.nd rfl (by first | exact Or.inl rfl | exact Or.inr rfl) (pe_ix ix_seq (pv 12) (pe_call (F_law_take.up (by decide)).ok hr rfl T.g_law_take.1 T.g_law_take.2 (F_law_take.up (by decide)).bn .nil (pass_own rfl rfl rfl rfl) (pa_cons (pv 0) (pa_cons (pe_callB call_lenU rfl T.n_len (by decide +kernel) (pa_cons (pv 12) pa_nil)) pa_nil))) fun _ _ => rfl))
      (pss_cons (ps_expr (pe_bm PySem.F.plainAttrs_list PySem.F.slot_list_append PySem.F.type_list_append mt_append (pv 9) (pa_cons (pv 13) pa_nil)))
      (pss_one (ps_set (i := 8) sc_law_hidden.nd rfl (by first | exact Or.inl rfl | exact Or.inr rfl) (pe_ix ix_seq (pe_dget (hu1 hr) (pv 4) (pv 13) fun _ _ => rfl) pe_int fun _ _ => rfl)))))))
      (pss_cons (ps_set (i := 14) sc_law_hidden.nd rfl (by first | exact Or.inl rfl | exact Or.inr rfl) (pv 7))
      (pss_cons (ps_if (pt_cmpR op_notN1 (pv 10) pe_non (nomark _))
      (pss_one (ps_set (i := 14) sc_law_hidden.nd rfl (by first | exact Or.inl rfl | exact Or.inr rfl) (pe_ix ix_seq (pe_dget (hu1 hr) (pv 4) (pv 10) fun _ _ => rfl) pe_int fun _ _ => rfl)))
      pss_nil)
      (pss_cons (ps_set (i := 9) sc_law_hidden.nd rfl (by first | exact Or.inl rfl | exact Or.inr rfl) (pe_op op_addU (pv 9) (pe_dget (hu1 hr) (pe_call (F_law_ways.up (by decide)).ok hr rfl T.g_law_ways.1 T.g_law_ways.2 (F_law_ways.up (by decide)).bn .nil (pass_own rfl rfl rfl rfl) (pa_cons (pv 6) (pa_cons (pv 8) pa_nil))) (pv 14) fun _ _ => rfl)))
      (pss_cons (ps_set (i := 8) sc_law_hidden.nd rfl (by first | exact Or.inl rfl | exact Or.inr rfl) (pv 14))
      (pss_one (ps_if (pt_cmpR op_notN1 (pv 10) pe_non (nomark _))
      (pss_cons (ps_expr (pe_bm PySem.F.plainAttrs_list PySem.F.slot_list_append PySem.F.type_list_append mt_append (pv 9) (pa_cons (pv 10) pa_nil)))
      (pss_one (ps_set (i := 8) sc_law_hidden.nd rfl (by first | exact Or.inl rfl | exact Or.inr rfl) (pe_ix ix_seq (pe_dget (hu1 hr) (pv 4) (pv 10) fun _ _ => rfl) pe_int fun _ _ => rfl))))
      pss_nil))))))))
      (pss_one (ps_ret (pv 9))))))))), fun ws ka out B F0 Q hC hR hX => ?_⟩)
  obtain ⟨x, y, z, v, rfl, a, p, n, ps, es, s, ws, rfl, rfl, rfl, rfl, rfl, hp, hn0, hn, hs, hst, hnm, hpl, hel, hwn, hwl, hw, rfl⟩ := hC
  have hsm : s ∈ mutL ps es s := (mem_mutL hs).mpr ⟨hs, .refl, .refl⟩
  have hml := mutL_len ps es s
  have hqn : mutL ps es s ≠ [] := fun z => by rw [z] at hsm; cases hsm
  have hqp : ∀ q ∈ mutL ps es s, q ∈ ps := fun q hq => ((mem_mutL hs).mp hq).1
  obtain ⟨r0, hr0⟩ : ∃ r0, r0 ∈ innR es (mutL ps es s) := by
    obtain ⟨w, hw'⟩ := List.exists_mem_of_ne_nil _ hwn
    obtain ⟨r, m, _⟩ := List.mem_map.mp (hw w hw')
    exact ⟨r, m⟩
  have hil : (innR es (mutL ps es s)).length ≤ es.length := List.length_filter_le _ _
  have hout : ∀ q ∈ mutL ps es s, outL (innR es (mutL ps es s)) q ≠ [] := fun q hq => outL_ne (part_out hst hs hr0 hq)
  have hrch : ∀ p q, p ∈ mutL ps es s → q ∈ mutL ps es s → Rch (innR es (mutL ps es s)) p q := fun p q hp hq => by
    obtain ⟨_, a1, a2⟩ := (mem_mutL hs).mp hp
    obtain ⟨_, b1, b2⟩ := (mem_mutL hs).mp hq
    exact rch_in hst hs hp hq (a2.trans b1)
  have hwr : ∀ w ∈ ws, ∃ r ∈ innR es (mutL ps es s), r.1 = w := fun w hw' => List.mem_map.mp (hw w hw')
  have hinn := inn_filt hnm (mutL ps es s)
  have hpe : ∀ r ∈ innR es (mutL ps es s), r.2.2 ∈ ps := fun r hr => (hst r (inn_mem hr).1).2
  have hm : ∀ r, r ∈ innR es (mutL ps es s) → r ∈ es ∧ r.2.1 ∈ mutL ps es s ∧ r.2.2 ∈ mutL ps es s := fun r hr => inn_mem hr
  have hpart : (W.val (.lst [.lst (stD (mutL ps es s)), .lst (stD (innL es (mutL ps es s)))])) = .val (.lst [.lst (stD (mutL ps es s)), .lst (stD (innL es (mutL ps es s)))]) := rfl
  generalize hQ : mutL ps es s = qs at *
  generalize hI : innR es qs = is at *
  refine q_asg (ev_callP (ea1 (ev_var rfl)) ⟨_, rfl, ps, es, rfl, hnm, by omega, rfl, rfl⟩) ?_
  refine q_asg (w := .val (PtD ps is)) ((evn_lst (ds := [.lst (stD ps), .lst (rwD is)]) (ea2 (ev_ixV (ev_var rfl) ev_int .vl at0) ((evn_filt (xs := es) (g := fun r => W.val (rwL r)) (f := fun r => rwL r) (p := fun r => decide (r.1 ∈ innL es qs)) (ei_map (ts := es) (f := rwL) (ev_ixV (ev_var rfl) ev_int .vl (atI_nat (j := 1) rfl))) (by decide) (by omega) ⟨trivial, fun _ => trivial⟩ (fun r hr => et_test (ev_inL (ev_ixV (ev_var rfl) ev_int .vt (atI_nat (j := 0) rfl)) (ev_ixV (ev_var rfl) ev_int .vl (atI_nat (j := 1) rfl)) .vl)) (fun r hr _ => ev_var rfl)).lst.to ?ti)) (show 2 ≤ 100000 by decide)).lst) ?_
  case ti =>
    refine congrArg (fun z => W.val (.lst z)) ?_
    rw [hinn]
    rfl
  refine q_asg (ev_draw (kr := []) (ev_ixV (ev_var rfl) ev_int .vl at0) (ev_var rfl) (ev_ixV (ev_var rfl) ev_int .vl at0) (hp.up (by omega)) hqn (by omega)) ?_
  have o1 := drawP_ok hp hqn
  have m1 := drawS_mem hqn p
  generalize drawS p qs = st at *
  generalize drawP p qs = p1 at *
  refine q_asg (ev_var rfl) ?_
  refine q_asgN (evn_lst (ds := []) ea_nil (by decide)) (fun b => ?_)
  refine q_forR (P := fun w k => ∃ es' p', w = .val (.lst (es' ++ [.non])) ∧ k = [(a, .lst (Pl.ds p')), (b, .lst [])] ∧ p'.Ok (n + 1 + ws.length) ∧ es'.Perm (stD ws)) (EvR.op (evr_call (k1 := [(a, .lst (Pl.ds p1))]) [(b, .lst [])] (ea2 (ev_var rfl) (evn_cb (ea1 (ev_var rfl)) (rcn_lst .vl (.inl rfl))).lst) ⟨_, _, rfl, a, p1, n + 1, stD ws, rfl, rfl, rfl, o1, by omega, by omega, by rw [stD_len]; omega, rfl⟩ (fun o k ⟨es, p', h, _⟩ => ⟨_, h⟩)) ?hop) ?hfor
  case hop =>
    rintro w k ⟨d, k2, ⟨es', p', e1, e2, e3, e4⟩, rfl, rfl⟩
    cases e1
    subst e2
    have hl := e4.length_eq
    rw [stD_len] at hl e3
    exact ⟨_, _, (evn_lst (ds := [.non]) (ea1 ev_non) (by decide)).lst, (RvN.lstR (rvn_cat (b1 := false) (b2 := false) .vl .vl (by simp; omega))).imp fun w k ⟨h1, h2⟩ => ⟨es', p', h1, h2, e3, e4⟩⟩
  case hfor =>
  rintro w k1 ⟨es', p2, rfl, rfl, o2, hperm⟩
  have hel' : es'.length = ws.length := by rw [hperm.length_eq, stD_len]
  refine ⟨es' ++ [.non], false, .vl, fun i ro ka => ∃ here ls b' p' v5 v10 v11 v12 v13 v14, ro = [some (.val (.adr a)), some (.val (PtD ps es)), some (.val (.lst [.lst (stD qs), .lst (stD (innL es qs))])), some (.val (.lst (stD ws))), some (.val (.dic (enD es))), v5, some (.val (PtD ps is)), some (.val (.str st)), some (.val (.str here)), some (.val (.adr b')), v10, v11, v12, v13, v14] ∧
    ka = [(a, .lst (Pl.ds p')), (b', .lst (stD ls))] ∧ p'.Ok (n + 1 + ws.length + 7 * i) ∧ here ∈ qs ∧ Wk is st ls here ∧ (∀ j w, j < i → (es' ++ [.non])[j]? = some (.str w) → w ∈ ls) ∧ (i = ws.length + 1 → here = st) ∧ ls.length ≤ i * (7 + ps.length), ⟨st, [], b, p2, _, _, _, _, _, _, rfl, rfl, o2.up (by omega), m1, rfl, fun j w h => absurd h (by omega), fun z => by omega, by simp⟩, fun _ _ _ _ => trivial, fun i d ro2 ka2 ta' hd ⟨here, ls, b', p', v5, v10, v11, v12, v13, v14, e1, e2, op, hh, wk, hj, _, hll⟩ => ?step, fun ro2 ka2 ta' ⟨here, ls, b', p', v5, v10, v11, v12, v13, v14, e1, e2, op, hh, wk, hj, hlast, hll⟩ _ => ?done⟩
  case done =>
    subst e1 e2
    rw [List.length_append, hel', List.length_singleton] at hj op hlast hll
    obtain rfl := hlast rfl
    refine g_ret hR (ev_var rfl) ⟨b', ls, _, p', rfl, rfl, op.up (by push_cast; omega), m1, wk, fun w hw' => ?_, hll⟩
    have hx : D.str w ∈ es' := hperm.mem_iff.mpr (List.mem_map.mpr ⟨w, hw', rfl⟩)
    obtain ⟨j, hjl, hje⟩ := List.mem_iff_getElem.mp hx
    exact hj j w (by omega) (by rw [List.getElem?_append_left hjl, List.getElem?_eq_getElem hjl, hje])
  case step =>
    subst e1 e2
    have hi : i < ws.length + 1 := by
      have := (List.getElem?_eq_some_iff.mp hd).1
      rw [List.length_append, hel'] at this
      exact this
    have hib : i * (7 + ps.length) ≤ 100 * 107 := Nat.mul_le_mul (by omega) (by omega)
    have t1 := tk_lt p' (m := 7) (by decide)
    have o3 := tk_ok op (m := 7) (by decide)
    have o3' : p'.Ok 1000000 := op.up (by push_cast; omega)
    refine q_forn (ei_range1 (ea1 (ev_take (kr := [(b', .lst (stD ls))]) (ev_var rfl) ev_int o3' (by decide) (by decide))) (by omega) (by omega)) (fun j ro ka => ∃ here ls' p'' v5 v11 v12 v13, ro = [some (.val (.adr a)), some (.val (PtD ps es)), some (.val (.lst [.lst (stD qs), .lst (stD (innL es qs))])), some (.val (.lst (stD ws))), some (.val (.dic (enD es))), v5, some (.val (PtD ps is)), some (.val (.str st)), some (.val (.str here)), some (.val (.adr b')), some (.val d), v11, v12, v13, v14] ∧
      ka = [(a, .lst (Pl.ds p'')), (b', .lst (stD (ls ++ ls')))] ∧ p''.Ok (n + 1 + ws.length + 7 * i + 1 + j) ∧ here ∈ qs ∧ Wk is st (ls ++ ls') here ∧ ls'.length = j) ⟨here, [], _, _, _, _, _, rfl, by rw [List.append_nil], o3.up (by omega), hh, by rw [List.append_nil]; exact wk, rfl⟩ (fun _ _ _ _ => trivial) (fun j w ro3 ka3 ta2 hw2 ⟨here, ls', p'', v5, v11, v12, v13, e1, e2, op2, hh, wk, hl2⟩ => ?turn) (fun ro3 ka3 ta2 ⟨here, ls', p'', v5, v11, v12, v13, e1, e2, op2, hh, wk, hl2⟩ hta2 => ?go)
    case turn =>
      subst e1 e2
      have hj6 : j < 6 := by
        have := (List.getElem?_eq_some_iff.mp hw2).1
        rw [List.length_map, List.length_range] at this
        omega
      have hon := hout here hh
      have hol := outL_len is here
      refine q_asg (w := .val (.lst (stD (outL is here)))) ((evn_filt (xs := is) (g := fun r => W.val (rwL r)) (f := fun r => D.str r.1) (p := fun r => decide (r.2.1 = here)) (ei_map (ts := is) (f := rwL) (ev_ixV (ev_var rfl) ev_int .vl (atI_nat (j := 1) rfl))) (by decide) (by omega) ⟨trivial, fun _ => trivial⟩ (fun r hr => et_test ((ev_eqS (ev_ixV (ev_var rfl) ev_int .vt (atI_nat (j := 1) rfl)) (ev_var rfl)).to (congrArg (fun z => W.val (.bl z)) (by rw [Bool.eq_iff_iff, beq_iff_eq, decide_eq_true_eq])))) (fun r hr _ => ev_ixV (ev_var rfl) ev_int .vt (atI_nat (j := 0) rfl))).lst.to (congrArg (fun z => W.val (.lst z)) (by unfold outL lnN stD; rw [List.map_map]; rfl))) ?_
      refine q_asg (ev_draw (kr := [(b', .lst (stD (ls ++ ls')))]) (ev_var rfl) (ev_var rfl) (ev_var rfl) (op2.up (by push_cast; omega)) hon (by omega)) ?_
      have o4 := drawP_ok op2 hon
      obtain ⟨r, hr, hr1, hr2⟩ := outL_mem (drawS_mem hon p'')
      rw [← hr1]
      generalize drawP p'' (outL is here) = p3 at *
      refine q_app (j0 := 1) (j := 1) (d := .str r.1) (ev_var rfl) rfl (ev_var rfl) rfl (by rw [stD_len, List.length_append]; omega) ?_
      refine g_asg (ev_ixV (ev_dgetV (d := lnD r) (ev_var rfl) (ev_var rfl) .v (enD_getm hnm (hm r hr).1)) ev_int .vt (atI_nat (j := 1) rfl)) (g_jp ⟨r.2.2, ls' ++ [r.1], p3, _, _, _, _, rfl, congrArg (fun z => [(a, Nd.lst p3.ds), (b', Nd.lst z)]) (by rw [← List.append_assoc]; exact stD_app _ [r.1]), o4.up (by push_cast; omega), (hm r hr).2.2, ?_, by rw [List.length_append, hl2]; rfl⟩)
      rw [← List.append_assoc]
      exact Wk.snoc hr (by rw [hr2]; exact wk)
    case go =>
      subst e1 e2
      rw [List.length_map, List.length_range] at op2 hl2
      have hl6 : ls'.length ≤ 6 := by omega
      generalize hls : ls ++ ls' = ls1 at *
      have hll1 : ls1.length ≤ i * (7 + ps.length) + 6 := by rw [← hls, List.length_append]; omega
      have hin : ∀ x ∈ ls, x ∈ ls1 := fun x hx => by rw [← hls]; exact List.mem_append_left _ hx
      have op3 : p''.Ok (n + 1 + ws.length + 7 * (i + 1)) := op2.up (by omega)
      have hwf : ∀ goal, goal ∈ qs → Rch is here goal ∧ (wyL ps is here goal).length ≤ ps.length ∧ Wk is here (wyL ps is here goal) goal := fun goal hg => by
        have h1 := hrch here goal hh hg
        obtain ⟨_, h2, h3⟩ := wyL_ok (hqp here hh) hpe h1
        exact ⟨h1, h3, h2⟩
      have hip : is.length ≤ 50000 := by omega
      have hpp : ps.length ≤ 1000 := by omega
      have hd2 : (∃ w ∈ ws, d = .str w) ∨ d = .non := by
        rcases List.mem_append.mp (List.mem_of_getElem? hd) with h | h
        · obtain ⟨w, hw1, hw2⟩ := List.mem_map.mp (hperm.mem_iff.mp h)
          exact .inl ⟨w, hw1, hw2.symm⟩
        · exact .inr (List.mem_singleton.mp h)
      refine q_asg (ev_var rfl) ?_
      rcases hd2 with ⟨w, hw1, rfl⟩ | rfl
      · obtain ⟨r, hr, rfl⟩ := hwr w hw1
        obtain ⟨hr1, hr2, hr3⟩ := hm r hr
        obtain ⟨c1, c2, c3⟩ := hwf r.2.1 hr2
        refine q_when (b := true) (et_test (ev_notN (d := .str r.1) (ev_var rfl))) (fun _ => ?_) (fun z => by cases z)
        refine g_asg (ev_ixV (ev_dgetV (d := lnD r) (ev_var rfl) (ev_var rfl) .v (enD_getm hnm hr1)) ev_int .vt (atI_nat (j := 0) rfl)) ?_
        refine q_asgN (evn_op (ev_var rfl) (ev_way (ev_var rfl) (ev_var rfl) (ev_var rfl) (hqp here hh) hpe c1 hpp hip) (rvn_cat (b1 := false) (b2 := false) (.ce 1 rfl) .vl (by rw [stD_len, stD_len]; omega))) (fun b2 => ?_)
        rw [stD_app]
        refine Gp.less (k1 := [(a, .lst (Pl.ds p'')), (b2, .lst (stD (ls1 ++ wyL ps is here r.2.1)))]) ?_ (.cons_cons _ (.cons _ (.refl _)))
        refine q_asg (ev_var rfl) ?_
        refine g_if (b := true) (et_test (ev_notN (d := .str r.1) (ev_var rfl))) (fun _ => ?_) (fun z => by cases z)
        refine q_app (j0 := 1) (j := 1) (d := .str r.1) (ev_var rfl) rfl (ev_var rfl) rfl (by rw [stD_len, List.length_append]; omega) ?_
        refine g_asg (ev_ixV (ev_dgetV (d := lnD r) (ev_var rfl) (ev_var rfl) .v (enD_getm hnm hr1)) ev_int .vt (atI_nat (j := 1) rfl)) (g_jpH hta2 ⟨r.2.2, ls1 ++ wyL ps is here r.2.1 ++ [r.1], b2, p'', _, _, _, _, _, _, rfl, congrArg (fun z => [(a, Nd.lst p''.ds), (b2, Nd.lst z)]) (stD_app _ [r.1]), op3.up (by push_cast; omega), hr3, Wk.snoc hr (wk.app c3), fun j w hj2 hjw => ?_, fun z => ?_, ?_⟩)
        · by_cases e : j = i
          · subst e
            rw [hd] at hjw
            cases hjw
            exact List.mem_append_right _ List.mem_cons_self
          · exact List.mem_append_left _ (List.mem_append_left _ (hin w (hj j w (by omega) hjw)))
        · obtain rfl : i = ws.length := by omega
          rw [List.getElem?_append_right (by omega), hel', Nat.sub_self] at hd
          cases hd
        · rw [List.length_append, List.length_append, List.length_singleton, Nat.succ_mul]
          omega
      · obtain ⟨c1, c2, c3⟩ := hwf st m1
        refine q_when (b := false) (et_test (ev_notN (d := .non) (ev_var rfl))) (fun z => by cases z) (fun _ => ?_)
        refine q_asgN (evn_op (ev_var rfl) (ev_way (ev_var rfl) (ev_var rfl) (ev_var rfl) (hqp here hh) hpe c1 hpp hip) (rvn_cat (b1 := false) (b2 := false) (.ce 1 rfl) .vl (by rw [stD_len, stD_len]; omega))) (fun b2 => ?_)
        rw [stD_app]
        refine Gp.less (k1 := [(a, .lst (Pl.ds p'')), (b2, .lst (stD (ls1 ++ wyL ps is here st)))]) ?_ (.cons_cons _ (.cons _ (.refl _)))
        refine q_asg (ev_var rfl) ?_
        refine g_if (b := false) (et_test (ev_notN (d := .non) (ev_var rfl))) (fun z => by cases z) (fun _ => ?_)
        refine g_next (g_jpH hta2 ⟨st, ls1 ++ wyL ps is here st, b2, p'', _, _, _, _, _, _, rfl, rfl, op3.up (by push_cast; omega), m1, wk.app c3, fun j w hj2 hjw => ?_, fun _ => rfl, ?_⟩)
        · by_cases e : j = i
          · subst e
            rw [hd] at hjw
            cases hjw
          · exact List.mem_append_left _ (hin w (hj j w (by omega) hjw))
        · rw [List.length_append, Nat.succ_mul]
          omega
end
/-- the law's own long text: as long as it takes -/
structure LgOk (s long : Str) (n : Nat) : Prop where
  en : EnP s.cps.toList long.cps.toList
  md : long.cps.toList.length % s.cps.toList.length = 0
  le : long.length < n + s.length
theorem LgOk.self {s : Str} {n : Nat} (h : 1 ≤ n) : LgOk s s n := ⟨enp_self _, Nat.mod_self _, by omega⟩
theorem LgOk.app {s long : Str} {n : Nat} (h : LgOk s long n) (lt : long.length < n) : LgOk s (long ++ s) n := by
  have e : (long ++ s).length = long.length + s.length := PySem.Str.length_append ..
  refine ⟨?_, ?_, by omega⟩
  · rw [cpsApp]
    exact enp_app h.en h.md
  · rw [cpsApp, List.length_append, Nat.add_mod, h.md, Nat.zero_add, Nat.mod_mod, Nat.mod_self]
def ct_law_windows (K : PySem.W.Frag) : Ct := Ct2 fun a b ka out => ∃ (s : Str) (k : Nat), a = .val (.str s) ∧ b = .val (.int (k : Int)) ∧ 1 ≤ s.length ∧ s.length ≤ 50 ∧ (inOrd (wins s k)).length < 64 ∧ k ≤ 8 ∧ ka = [] ∧ out = Rt (.lst (stD (inOrd (wins s k)))) []
section
variable {P : Program} {w : World} {K : PySem.W.Frag} {mg : Str → Option Value} {base : Heap}
theorem ok_law_windows (T : Tx K mg) : Fn P w K mg base 4 (He.ga K "_law_windows") ["_law_text_here", "_law_size"] (ct_law_windows K) := by
  obtain ⟨fd, F⟩ := T.d_law_windows
  refine fn_ok F sc_law_windows (fun _ _ _ _ _ _ us hl => match us, hl with | [_, _], _ => rfl) ct2_len (fun cdv A outer s H E hr => ⟨_, (pss_cons (ps_set (i := 2) sc_law_windows.nd rfl (by first | exact Or.inl rfl | exact Or.inr rfl) (pv 0))
      (pss_cons (ps_while (passes_of rfl) (pt_cmpR op_lt (pe_callB call_lenU rfl T.n_len (by decide +kernel) (pa_cons (pv 2) pa_nil)) (pe_op op_addU (pe_callB call_lenU rfl T.n_len (by decide +kernel) (pa_cons (pv 0) pa_nil)) (pv 1)) (nomark _)) (pss_one (ps_set (i := 2) sc_law_windows.nd rfl (by first | exact Or.inl rfl | exact Or.inr rfl) (pe_op op_addU (pv 2) (pv 0)))))
      (pss_cons (ps_set (i := 3) sc_law_windows.nd rfl (by first | exact Or.inl rfl | exact Or.inr rfl) pe_dnewK)
      (pss_cons (ps_for (passes_of rfl) rfl (pi_range1 rfl T.n_range (pa_cons (pe_callB call_lenU rfl T.n_len (by decide +kernel) (pa_cons (pv 0) pa_nil)) pa_nil)) (pg_name (i := 4) sc_law_windows.nd rfl (by first | exact Or.inl rfl | exact Or.inr rfl)) (pss_one (ps_dput (hu1 hr) (pv 3) (pe_slice sl_U (pv 2) (po_some (pv 4)) (po_some (pe_op op_addU (pv 4) (pv 1)))) pe_bl rfl)))
      (pss_one (ps_ret (pe_callB cr_sortedS rfl T.n_sorted (by decide +kernel) (pa_cons (pe_lock (pe_lc (te := (tCB rStrS (tCons (tVar 5) tNil))) (tt := tYes) (own := [("_law_one", 5)]) rfl sc_law_windows.nd (pi_keys (pv 3)) (blk_ok ["_law_text_here", "_law_size", "_law_long", "_law_found", "_law_k", "_law_one"] (defScope s_law_windows) rfl rfl (by decide +kernel)) (fun _ _ _ _ _ => (pg_name (i := 5) sc_law_windows.nd rfl (by first | exact Or.inl rfl | exact Or.inr rfl))) (fun _ _ _ _ _ => pts_nil) (fun _ _ _ _ _ => (pe_callTy call_strS rfl T.n_str (by decide +kernel) (pa_cons (pv 5) pa_nil))))) pa_nil)))))))), fun ws ka out B F0 Q hC hR hX => ?_⟩)
  obtain ⟨a, b, rfl, s, k, rfl, rfl, h0, h1, h64, hk, rfl, rfl⟩ := hC
  refine q_asg (ev_var rfl) ?_
  refine q_while (fun n ro ka => ∃ long, n = s.length + k - long.length ∧ ro = [some (.val (.str s)), some (.val (.int (k : Int))), some (.val (.str long)), none, none, none] ∧ ka = [] ∧ LgOk s long (s.length + k)) _ ⟨s, rfl, rfl, rfl, .self (by omega)⟩ (fun n ro2 ka2 ⟨long, en, e1, e2, hl⟩ => ?_)
  subst e1 e2
  have lz : long.length ≤ 1000 := by
    have := hl.le
    omega
  refine ⟨decide ((long.length : Int) < (s.length : Int) + (k : Int)), [], et_test (ev_lt (ev_lenS (ev_var rfl) (by omega)) (ev_addI (ev_lenS (ev_var rfl) (by omega)) (ev_var rfl))), fun hb => ?_, fun hb => ?_⟩
  · rw [decide_eq_true_eq] at hb
    have e : (long ++ s).length = long.length + s.length := PySem.Str.length_append ..
    exact g_asg (ev_addS (ev_var rfl) (ev_var rfl) (by omega)) (g_jp ⟨s.length + k - (long ++ s).length, by omega, long ++ s, rfl, rfl, rfl, hl.app (by omega)⟩)
  rw [decide_eq_false_iff_not] at hb
  refine q_asgN evn_dnew fun a1 => ?_
  refine q_forn (ei_range1 (ea1 (ev_lenS (s := s) (ev_var rfl) (by omega))) (by omega) (by omega)) (fun i ro ka => (∃ v, ro = [some (.val (.str s)), some (.val (.int (k : Int))), some (.val (.str long)), some (.val (.adr a1)), v, none]) ∧ ka = [(a1, .dic (tabS (dedS ((wins s k).take i))))]) ⟨⟨none, rfl⟩, rfl⟩ (fun i ro ka _ => trivial) (fun i w ro2 ka2 ta' hw ⟨⟨v, e1⟩, e2⟩ => ?_) (fun ro2 ka2 ta' ⟨⟨v, e1⟩, e2⟩ _ => ?_)
  · subst e1 e2
    have hi : i < s.length := by
      have := (List.getElem?_eq_some_iff.mp hw).1
      rw [List.length_map, List.length_range] at this
      omega
    have hw2 : w = .val (.int (i : Int)) := by
      rw [List.getElem?_map] at hw
      obtain ⟨j, hj, rfl⟩ := Option.map_eq_some_iff.mp hw
      obtain ⟨h1, h2⟩ := List.getElem?_eq_some_iff.mp hj
      rw [List.getElem_range] at h2
      subst h2
      rfl
    subst hw2
    have at1 : (wins s k)[i]? = some (winS s k i) := by
      unfold wins
      rw [List.getElem?_map, List.getElem?_range hi]
      rfl
    refine g_dput (j := 0) ev_bl (ev_var rfl) ((ev_slS (s := long) (ev_var rfl) (eo_some (ev_var rfl)) (eo_some (ev_addI (ev_var rfl) (ev_var rfl))) (by omega)).to (w' := .val (.str (winS s k i))) (by rw [cut_win hl.en (by omega)])) rfl ?_ (g_jp ⟨⟨_, rfl⟩, ?_⟩)
    · unfold tabS
      rw [List.length_map]
      have := dedS_len ((wins s k).take i)
      rw [List.length_take, wins_len] at this
      omega
    · rw [take_succ_some at1, dedS_snoc, ← tabS_put]
      rfl
  · subst e1 e2
    have et : (wins s k).take (((List.range (Int.toNat ((s.length : Nat) : Int))).map fun i : Nat => W.val (.int (i : Int))).length) = wins s k := List.take_of_length_le (by rw [List.length_map, List.length_range, wins_len]; omega)
    rw [et]
    have hl2 : (dedS (wins s k)).length < 64 := by
      unfold inOrd at h64
      rwa [srt_len] at h64
    refine g_ret hR ((evn_srt (b := false) (ss := dedS (wins s k)) (evn_lock (j := 0) (a := a1) (ds := tabS (dedS (wins s k))) (k1 := [(a1, .dic (tabS (dedS (wins s k))))]) (n := .lst (stD (dedS (wins s k)))) rfl rfl (fun o xs => ?_)).lst .vl (by omega)).lst.less (List.nil_sublist _)) ⟨rfl, rfl⟩
    have hm := evn_map (K := K) (te := tCB rStrS (tCons (tVar 5) tNil)) (xs := dedS (wins s k)) (g := fun s => W.val (.str s)) (f := fun s => D.str s) (j := 5) (vs := [5]) (ro := [some (.val (.str s)), some (.val (.int (k : Int))), some (.val (.str long)), some (.val (.adr a1)), v, none]) (ka := [(a1, .ldic o xs (tabS (dedS (wins s k))))]) (k1 := [(a1, .ldic o xs (tabS (dedS (wins s k))))]) (C := fun k2 => (a1, Nd.ldic o xs (tabS (dedS (wins s k)))) ∈ k2) (wi := iKeys (tVar 3)) ?_ (by decide) (by omega) ⟨by simp, fun x => by simp⟩ (fun s hs => ev_strS (ev_var rfl))
    · exact hm
    · have := ei_keys (K := K) (te := tVar 3) (ro := [some (.val (.str s)), some (.val (.int (k : Int))), some (.val (.str long)), some (.val (.adr a1)), v, none]) (ka := [(a1, .ldic o xs (tabS (dedS (wins s k))))]) (k1 := [(a1, .ldic o xs (tabS (dedS (wins s k))))]) (a := a1) (o := o) (xs := xs) (ds := tabS (dedS (wins s k))) (ev_var rfl) (by simp)
      unfold tabS at this ⊢
      rw [List.map_map] at this
      exact this
end
theorem draw_sign {L : Str} {p : Pl} (h : 1 ≤ L.length) : 0 ≤ (tk p (L.length : Nat)).1 ∧ ∃ c, atI L.cps.toList (tk p (L.length : Nat)).1 = some c ∧ c ∈ L.cps.toList := by
  have t := tk_lt p (m := (L.length : Nat)) (by omega)
  refine ⟨t.1, ?_⟩
  have hl : (tk p (L.length : Nat)).1.toNat < L.cps.toList.length := by
    rw [← str_len]
    omega
  exact ⟨L.cps.toList[(tk p (L.length : Nat)).1.toNat], atZ t.1 (List.getElem?_eq_getElem hl), List.getElem_mem hl⟩
def ct_law_text (K : PySem.W.Frag) : Ct := Ct3 fun s m l ka out => ∃ (a : Addr) (p : Pl) (n : Int) (mo : Nat) (L : Str), s = .val (.adr a) ∧ m = .val (.int (mo : Int)) ∧ l = .val (.str L) ∧ ka = [(a, .lst p.ds)] ∧ p.Ok n ∧ 0 ≤ n ∧ n ≤ 900000 ∧ 1 ≤ mo ∧ mo ≤ 40 ∧ 1 ≤ L.length ∧ L.length ≤ 1000 ∧ (∀ c ∈ L.cps.toList, c ∈ letL) ∧
  out = fun o k => ∃ (t : Str) (p' : Pl), o = .ret (.str t) ∧ k = [(a, .lst p'.ds)] ∧ p'.Ok (n + 50) ∧ isTx mo t = true ∧ ∀ c ∈ t.cps.toList, c ∈ L.cps.toList
section
variable {P : Program} {w : World} {K : PySem.W.Frag} {mg : Str → Option Value} {base : Heap}
theorem ok_law_text (T : Tx K mg) (F_law_take : Fn P w K mg base 4 (He.ga K "_law_take") ["_law_pool_here", "_law_many"] (ct_law_take K)) : Fn P w K mg base 6 (He.ga K "_law_text") ["_law_pool_here", "_law_most", "_law_letters"] (ct_law_text K) := by
  obtain ⟨fd, F⟩ := T.d_law_text
  refine fn_ok F sc_law_text (fun _ _ _ _ _ _ us hl => match us, hl with | [_, _, _], _ => rfl) ct3_len (fun cdv A outer s H E hr => ⟨_, (pss_cons (ps_set (i := 3) sc_law_text.nd rfl (by first | exact Or.inl rfl | exact Or.inr rfl) pe_str)
      (pss_cons (ps_for (passes_of rfl) rfl (pi_range1 rfl T.n_range (pa_cons (pe_op op_addU pe_int (pe_call (F_law_take.up (by decide)).ok hr rfl T.g_law_take.1 T.g_law_take.2 (F_law_take.up (by decide)).bn .nil (pass_own rfl rfl rfl rfl) (pa_cons (pv 0) (pa_cons (pv 1) pa_nil)))) pa_nil)) (pg_name (i := 4) sc_law_text.nd rfl (by first | exact Or.inl rfl | exact Or.inr rfl)) (pss_one (ps_set (i := 3) sc_law_text.nd rfl (by first | exact Or.inl rfl | exact Or.inr rfl) (pe_op op_addU (pv 3) (pe_ix ix_seq (pv 2) (pe_call (F_law_take.up (by decide)).ok hr rfl T.g_law_take.1 T.g_law_take.2 (F_law_take.up (by decide)).bn .nil (pass_own rfl rfl rfl rfl) (pa_cons (pv 0) (pa_cons (pe_callB call_lenU rfl T.n_len (by decide +kernel) (pa_cons (pv 2) pa_nil)) pa_nil))) fun _ _ => rfl)))))
      (pss_cons (ps_if (PW.pt (pw_and (pt_cmpR (op_eqP (by have := (hr).units; exact this)) (pe_call (F_law_take.up (by decide)).ok hr rfl T.g_law_take.1 T.g_law_take.2 (F_law_take.up (by decide)).bn .nil (pass_own rfl rfl rfl rfl) (pa_cons (pv 0) (pa_cons pe_int pa_nil))) pe_int (nomark _)) (pw_and1 (pt_cmpR op_le (pe_op op_mulU pe_int (pe_callB call_lenU rfl T.n_len (by decide +kernel) (pa_cons (pv 3) pa_nil))) (pv 1) (nomark _)))))
      (pss_one (ps_set (i := 3) sc_law_text.nd rfl (by first | exact Or.inl rfl | exact Or.inr rfl) (pe_op op_addU (pv 3) (pv 3))))
      pss_nil)
      (pss_one (ps_ret (pv 3)))))), fun ws ka out B F0 Q hC hR hX => ?_⟩)
  obtain ⟨s1, m1, l1, rfl, a, p, n, mo, L, rfl, rfl, rfl, rfl, hp, hn0, hn, hm0, hm, hL, hL2, hLl, rfl⟩ := hC
  refine q_asg ev_str ?_
  have t1 := tk_lt p (m := (mo : Int)) (by omega)
  have hp1 := tk_ok hp (m := (mo : Int)) (by omega)
  refine q_forn (ei_range1 (ea1 (ev_addI ev_int (ev_take (kr := []) (ev_var rfl) (ev_var rfl) (hp.up (by omega)) (by omega) (by omega)))) (by omega) (by omega)) (fun i ro ka => ∃ (t : Str) (p' : Pl) (v : Option W), ro = [some (.val (.adr a)), some (.val (.int (mo : Int))), some (.val (.str L)), some (.val (.str t)), v] ∧ ka = [(a, .lst p'.ds)] ∧ p'.Ok (n + 1 + i) ∧ t.length = i ∧ ∀ c ∈ t.cps.toList, c ∈ L.cps.toList)
    ⟨"", _, none, rfl, rfl, hp1.up (by omega), rfl, fun c (hc : c ∈ ([] : List Nat)) => by cases hc⟩ (fun i ro ka _ => trivial) (fun i w ro2 ka2 ta' hw ⟨t, p', v, e1, e2, hp', hl, hc⟩ => ?_) (fun ro2 ka2 ta' ⟨t, p', v, e1, e2, hp', hl, hc⟩ _ => ?_)
  · subst e1 e2
    have hi : i < (1 + (tk p (mo : Int)).1).toNat := by
      have := (List.getElem?_eq_some_iff.mp hw).1
      rwa [List.length_map, List.length_range] at this
    obtain ⟨z0, c, hcc, hcm⟩ := draw_sign (L := L) (p := p') hL
    have e : (t ++ (⟨#[c]⟩ : Str)).length = t.length + 1 := PySem.Str.length_append ..
    refine g_asg (ev_addS (ev_var rfl) (ev_ixS (s := L) (ev_var rfl) (ev_take (kr := []) (ev_var rfl) (ev_lenS (ev_var rfl) (by omega)) (hp'.up (by omega)) (by omega) (by omega)) (by omega) hcc) (by show t.length + 1 ≤ 100000; omega)) (g_jp ⟨t ++ ⟨#[c]⟩, _, _, rfl, rfl, (tk_ok hp' (by omega)).up (by push_cast; omega), by omega, fun d hd => ?_⟩)
    rw [cpsApp] at hd
    rcases List.mem_append.mp hd with hd | hd
    · exact hc d hd
    · have : d = c := by simpa using hd
      exact this ▸ hcm
  subst e1 e2
  rw [List.length_map, List.length_range] at hp' hl
  have hl1 : 1 ≤ t.length ∧ t.length ≤ mo := by omega
  have ht : isTx mo t = true := isTx_iff.mpr ⟨hl1, fun c h => hLl c (hc c h)⟩
  have hp2 := tk_ok hp' (m := 5) (by decide)
  refine q_when (et_and (et_test (ev_eqI (ev_take (kr := []) (ev_var rfl) ev_int (hp'.up (by omega)) (by decide) (by decide)) ev_int)) (fun _ => et_test (ev_le (ev_mulL ev_int (ev_lenS (ev_var rfl) (by omega))) (ev_var rfl)))) (fun hb => ?_) (fun hb => ?_)
  · rw [Bool.and_eq_true, decide_eq_true_eq] at hb
    have e : (t ++ t).length = t.length + t.length := PySem.Str.length_append ..
    refine q_asg (ev_addS (ev_var rfl) (ev_var rfl) (by omega)) (g_ret hR (ev_var rfl) ⟨t ++ t, _, rfl, rfl, hp2.up (by omega), isTx_iff.mpr ⟨by omega, fun c h => ?_⟩, fun c h => ?_⟩)
    all_goals
      rw [cpsApp] at h
      rcases List.mem_append.mp h with h | h
      all_goals first | exact hc c h | exact hLl c (hc c h)
  · exact g_ret hR (ev_var rfl) ⟨t, _, rfl, rfl, hp2.up (by omega), ht, hc⟩
end
/-! ### the net of some words -/
def ct_law_window_net (K : PySem.W.Frag) : Ct := Ct1 fun a ka out => ∃ ws, a = .val (.lst (stD ws)) ∧ (∀ x ∈ ws, x.length ≤ 100) ∧ ws.length ≤ 100 ∧ (wnP ws).length < 64 ∧ ka = [] ∧ out = Rt (PtD (wnP ws) (wnE ws)) []
section
variable {P : Program} {w : World} {K : PySem.W.Frag} {mg : Str → Option Value} {base : Heap}
theorem ok_law_window_net (T : Tx K mg) : Fn P w K mg base 4 (He.ga K "_law_window_net") ["_law_words"] (ct_law_window_net K) := by
  obtain ⟨fd, F⟩ := T.d_law_window_net
  refine fn_ok F sc_law_window_net (fun _ _ _ _ _ _ us hl => match us, hl with | [_], _ => rfl) ct1_len (fun cdv A outer s H E hr => ⟨_, (pss_cons (ps_set (i := 1) sc_law_window_net.nd rfl (by first | exact Or.inl rfl | exact Or.inr rfl) (pe_lst pa_nil))
      (pss_cons (ps_for (passes_of rfl) rfl (pi_seq (pv 0)) (pg_name (i := 2) sc_law_window_net.nd rfl (by first | exact Or.inl rfl | exact Or.inr rfl)) (pss_cons (ps_set (i := 1) sc_law_window_net.nd rfl (by first | exact Or.inl rfl | exact Or.inr rfl) (pe_op op_addU (pv 1) (pe_lc (te := (tVar 3)) (tt := (tTest (tOp (rNiU K) (tVar 3) (tVar 1)))) (own := [("_law_post", 3)]) rfl sc_law_window_net.nd (pi_seq (pe_lst (pa_cons (pe_slice sl_U (pv 2) po_none (po_some (pe_un un_neg pe_int))) pa_nil))) (blk_ok ["_law_words", "_law_posts", "_law_word", "_law_post"] (defScope s_law_window_net) rfl rfl (by decide +kernel)) (fun _ _ _ _ _ => (pg_name (i := 3) sc_law_window_net.nd rfl (by first | exact Or.inl rfl | exact Or.inr rfl))) (fun _ _ _ _ _ => (pts_one (pt_cmpR op_niU (pv 3) (pv 1) (by with_unfolding_all rfl)))) (fun _ _ _ _ _ => (pv 3)))))
      (pss_one (ps_set (i := 1) sc_law_window_net.nd rfl (by first | exact Or.inl rfl | exact Or.inr rfl) (pe_op op_addU (pv 1) (pe_lc (te := (tVar 3)) (tt := (tTest (tOp (rNiU K) (tVar 3) (tVar 1)))) (own := [("_law_post", 3)]) rfl sc_law_window_net.nd (pi_seq (pe_lst (pa_cons (pe_slice sl_U (pv 2) (po_some pe_int) po_none) pa_nil))) (blk_ok ["_law_words", "_law_posts", "_law_word", "_law_post"] (defScope s_law_window_net) rfl rfl (by decide +kernel)) (fun _ _ _ _ _ => (pg_name (i := 3) sc_law_window_net.nd rfl (by first | exact Or.inl rfl | exact Or.inr rfl))) (fun _ _ _ _ _ => (pts_one (pt_cmpR op_niU (pv 3) (pv 1) (by with_unfolding_all rfl)))) (fun _ _ _ _ _ => (pv 3))))))))
      (pss_one (ps_ret (pe_lst (pa_cons (pe_callB cr_sortedS rfl T.n_sorted (by decide +kernel) (pa_cons (pe_lc (te := (tCB rStrS (tCons (tVar 3) tNil))) (tt := tYes) (own := [("_law_post", 3)]) rfl sc_law_window_net.nd (pi_seq (pv 1)) (blk_ok ["_law_words", "_law_posts", "_law_word", "_law_post"] (defScope s_law_window_net) rfl rfl (by decide +kernel)) (fun _ _ _ _ _ => (pg_name (i := 3) sc_law_window_net.nd rfl (by first | exact Or.inl rfl | exact Or.inr rfl))) (fun _ _ _ _ _ => pts_nil) (fun _ _ _ _ _ => (pe_callTy call_strS rfl T.n_str (by decide +kernel) (pa_cons (pv 3) pa_nil)))) pa_nil)) (pa_cons (pe_lc (te := (tTup (tCons (tVar 2) (tCons (tSl (rSlU K) (tVar 2) tNoPart (tPart (tUn (rU fun i => .int (-i)) (tC (.int 1))))) (tCons (tSl (rSlU K) (tVar 2) (tPart (tC (.int 1))) tNoPart) tNil))))) (tt := tYes) (own := [("_law_word", 2)]) rfl sc_law_window_net.nd (pi_seq (pv 0)) (blk_ok ["_law_words", "_law_posts", "_law_word", "_law_post"] (defScope s_law_window_net) rfl rfl (by decide +kernel)) (fun _ _ _ _ _ => (pg_name (i := 2) sc_law_window_net.nd rfl (by first | exact Or.inl rfl | exact Or.inr rfl))) (fun _ _ _ _ _ => pts_nil) (fun _ _ _ _ _ => (pe_tup (pa_cons (pv 2) (pa_cons (pe_slice sl_U (pv 2) po_none (po_some (pe_un un_neg pe_int))) (pa_cons (pe_slice sl_U (pv 2) (po_some pe_int) po_none) pa_nil)))))) pa_nil))))))), fun ws ka out B F0 Q hC hR hX => ?_⟩)
  obtain ⟨a, rfl, ws, rfl, hx, hl, h64, rfl, rfl⟩ := hC
  have comp : ∀ (acc : List Str) (x y : Str) {te : TE}, EvD K te [some (.val (.lst (stD ws))), some (.val (.lst (stD acc))), some (.val (.str x)), none] [] (.val (.str y)) [] → acc.length ≤ 1000 →
      EvD K (tOp (rAddU K) (tVar 1) (tLc (iSeq K (tLst (tCons te tNil))) (gName 3) (tTest (tOp (rNiU K) (tVar 3) (tVar 1))) (tVar 3) [3])) [some (.val (.lst (stD ws))), some (.val (.lst (stD acc))), some (.val (.str x)), none] [] (.val (.lst (stD (gaP.addE acc y)))) [] := fun acc x y te hy hz => by
    have e : gaP.addE acc y = acc ++ [y].filter fun p => !decide (p ∈ acc) := by
      unfold gaP.addE
      by_cases h : y ∈ acc
      · rw [if_pos h, List.filter_cons_of_neg (by simp [h]), List.filter_nil, List.append_nil]
      · rw [if_neg h, List.filter_cons_of_pos (by simp [h]), List.filter_nil]
    rw [e, ← stD_app]
    refine ev_catL (ev_var rfl) (evn_filt (xs := [y]) (g := fun p => W.val (.str p)) (f := fun p => D.str p) (p := fun p => !decide (p ∈ acc)) (C := fun _ => True) (ei_strs (ss := [y]) (evn_lst (ds := [.str y]) (ea1 hy) (show 1 ≤ 100000 by decide)).lst) (by decide) (show 1 ≤ 1000000 by decide) ⟨trivial, fun _ => trivial⟩ (fun p _ => et_test (ev_niL (ev_var rfl) (ev_var rfl) .vl)) (fun p _ _ => ev_var rfl)).lst ?_
    rw [stD_len, stD_len]
    have := List.length_filter_le (fun p => !decide (p ∈ acc)) [y]
    rw [List.length_singleton] at this
    omega
  refine q_asg ((evn_lst (ds := []) ea_nil (by decide)).lst) ?_
  refine q_forn (ei_strs (ev_var rfl)) (fun i ro ka => ∃ v, ro = [some (.val (.lst (stD ws))), some (.val (.lst (stD (gaP [] (ws.take i))))), v, none] ∧ ka = []) ⟨none, rfl, rfl⟩ (fun i ro ka _ => trivial) (fun i w ro2 ka2 ta' hw ⟨v, e1, e2⟩ => ?_) (fun ro2 ka2 ta' ⟨v, e1, e2⟩ _ => ?_)
  · subst e1 e2
    rw [List.getElem?_map] at hw
    obtain ⟨x, hx0, rfl⟩ := Option.map_eq_some_iff.mp hw
    have hxm := hx x (List.mem_of_getElem? hx0)
    have lim := (gaP_all (ws.take i) [] List.nodup_nil).2.1
    have lt : (ws.take i).length ≤ 100 := by rw [List.length_take]; omega
    have l1 := addE_len (gaP [] (ws.take i)) (iniS x)
    simp only [List.length_nil] at lim
    refine q_asg (comp _ x (iniS x) (ev_slS (ev_var rfl) eo_none (eo_some (ev_un ev_int ru_neg)) (by omega)) (by omega)) (g_asg (comp _ x (taiS x) (ev_slS (ev_var rfl) (eo_some ev_int) eo_none (by omega)) (by omega)) (g_jp ⟨some (.val (.str x)), ?_, rfl⟩))
    have e : gaP [] (ws.take (i + 1)) = gaP.addE (gaP.addE (gaP [] (ws.take i)) (iniS x)) (taiS x) := by
      rw [take_succ_some hx0]
      unfold gaP
      rw [List.foldl_append]
      rfl
    rw [e]
    rfl
  · subst e1 e2
    rw [List.length_map, List.take_length]
    have lim := (gaP_all ws [] List.nodup_nil).2.1
    have nd := (gaP_all ws [] List.nodup_nil).1
    simp only [List.length_nil] at lim
    have l64 : (gaP [] ws).length < 64 := by
      rw [← srt_len, gaP_srt]
      exact h64
    refine g_ret hR ((evn_lst (ds := [.lst (stD (wnP ws)), .lst (rwD (wnE ws))]) (ea2 ((evn_srt (b := false) (ss := gaP [] ws) (evn_map (xs := gaP [] ws) (g := fun p => W.val (.str p)) (f := fun p => D.str p) (C := fun _ => True) (ei_strs (ev_var rfl)) (by decide) (by omega) ⟨trivial, fun _ => trivial⟩ (fun p _ => ev_strS (ev_var rfl))).lst .vl l64).lst.to (by rw [gaP_srt])) ((evn_map (xs := ws) (g := fun x => W.val (.str x)) (f := fun x => D.tup [.str x, .str (iniS x), .str (taiS x)]) (C := fun _ => True) (ei_strs (ev_var rfl)) (by decide) (by omega) ⟨trivial, fun _ => trivial⟩ (fun x hm => ev_tup (ds := [.str x, .str (iniS x), .str (taiS x)]) (ea3 (ev_var rfl) (ev_slS (ev_var rfl) eo_none (eo_some (ev_un ev_int ru_neg)) (by have := hx x hm; omega)) (ev_slS (ev_var rfl) (eo_some ev_int) eo_none (by have := hx x hm; omega))) (show 3 ≤ 100000 by decide))).lst.to ?_)) (show 2 ≤ 100000 by decide)).lst) ⟨rfl, rfl⟩
    unfold rwD wnE
    rw [List.map_map]
    rfl
end
theorem cut_any (s : Str) (p : Nat) : (cutS s none (some (p : Int))).cps.toList = s.cps.toList.take p := by
  have e2 : HT.sIx s.length 0 none = 0 := rfl
  unfold cutS
  rw [HT.sIx_nat, e2]
  show (s.cps.toList.drop 0).take (min p s.length - 0) = _
  rw [List.drop_zero, Nat.sub_zero, str_len, ← List.take_eq_take_min]
theorem cut_len {s : Str} {p : Nat} (h : p ≤ s.length) : (cutS s none (some (p : Int))).length = p := by
  rw [str_len, cut_any, List.length_take, ← str_len]
  omega
/-- s is its first d letters again and again -/
def rtB (s : Str) (d : Nat) : Bool := decide (s.length % d = 0) && (repS (s.length / d) (cutS s none (some (d : Int))) == s)
theorem rtB_len {s : Str} (h : 1 ≤ s.length) : rtB s s.length = true := by
  unfold rtB
  rw [decide_eq_true (Nat.mod_self _), Nat.div_self h, Bool.true_and, beq_iff_eq]
  apply str_ext
  show (List.replicate 1 (cutS s none (some (s.length : Int))).cps.toList).flatten = _
  rw [cut_any, List.take_of_length_le (by rw [← str_len]; exact Nat.le_refl _)]
  simp
/-- the least d -/
structure RtN (s : Str) (d : Nat) : Prop where
  d1 : 1 ≤ d
  dn : d ≤ s.length
  is : rtB s d = true
  no : ∀ j, 1 ≤ j → j < d → rtB s j = false
def ct_law_root (K : PySem.W.Frag) : Ct := Ct1 fun a ka out => ∃ s, a = .val (.str s) ∧ 1 ≤ s.length ∧ s.length ≤ 4000 ∧ ka = [] ∧ out = fun o k => ∃ d, RtN s d ∧ o = .ret (.str (cutS s none (some (d : Int)))) ∧ k = []
section
variable {P : Program} {w : World} {K : PySem.W.Frag} {mg : Str → Option Value} {base : Heap}
theorem ok_law_root (T : Tx K mg) : Fn P w K mg base 4 (He.ga K "_law_root") ["_law_text_here"] (ct_law_root K) := by
  obtain ⟨fd, F⟩ := T.d_law_root
  refine fn_ok F sc_law_root (fun _ _ _ _ _ _ us hl => match us, hl with | [_], _ => rfl) ct1_len (fun cdv A outer s H E hr => ⟨_, (pss_cons (ps_set (i := 1) sc_law_root.nd rfl (by first | exact Or.inl rfl | exact Or.inr rfl) pe_int)
      (pss_cons (ps_while (passes_of rfl) (PW.pt (pw_or (pt_cmpR (op_neP (by have := (hr).units; exact this)) (pe_op op_mod (pe_callB call_lenU rfl T.n_len (by decide +kernel) (pa_cons (pv 0) pa_nil)) (pv 1)) pe_int (nomark _)) (pw_or1 (pt_cmpR (op_neP (by have := (hr).units; exact this)) (pe_op op_mulS (pe_slice sl_U (pv 0) po_none (po_some (pv 1))) (pe_op op_fdiv (pe_callB call_lenU rfl T.n_len (by decide +kernel) (pa_cons (pv 0) pa_nil)) (pv 1))) (pv 0) (nomark _))))) (pss_one (ps_set (i := 1) sc_law_root.nd rfl (by first | exact Or.inl rfl | exact Or.inr rfl) (pe_op op_addU (pv 1) pe_int))))
      (pss_one (ps_ret (pe_slice sl_U (pv 0) po_none (po_some (pv 1))))))), fun ws ka out B F0 Q hC hR hX => ?_⟩)
  obtain ⟨a, rfl, s1, rfl, h0, h4, rfl, rfl⟩ := hC
  refine q_asg ev_int ?_
  refine q_while (fun n ro ka => ∃ d : Nat, n = s1.length - d ∧ ro = [some (.val (.str s1)), some (.val (.int (d : Int)))] ∧ ka = [] ∧ 1 ≤ d ∧ d ≤ s1.length ∧ ∀ j, 1 ≤ j → j < d → rtB s1 j = false) _ ⟨1, rfl, rfl, rfl, by decide, h0, fun j h1 h2 => by omega⟩ (fun n ro2 ka2 ⟨d, en, e1, e2, d1, dn, no⟩ => ?_)
  subst e1 e2
  have cl := cut_len dn
  refine ⟨!rtB s1 d, [], (et_or (et_test (ev_neI (ev_modI (ev_lenS (ev_var rfl) (by omega)) (ev_var rfl) (by omega)) ev_int)) (fun h => et_test (ev_neS (ev_mulS (s := cutS s1 none (some (d : Int))) (n := s1.length / d) (ev_slS (ev_var rfl) eo_none (eo_some (ev_var rfl)) (by omega)) ((ev_divI (ev_lenS (ev_var rfl) (by omega)) (ev_var rfl) ?cd).to (by rw [Int.natCast_ediv])) (Nat.div_pos dn d1) (Nat.le_trans (Nat.div_le_self _ _) h4) (by omega)) (ev_var rfl)))).to ?val, fun hb => ?_, fun hb => ?_⟩
  case cd =>
    show CDiv _ _
    unfold CDiv
    omega
  case val =>
    unfold rtB
    rw [Bool.not_and]
    congr 1
    rw [← Int.natCast_emod]
    congr 1
    rw [Bool.eq_iff_iff, beq_iff_eq, decide_eq_true_eq]
    omega
  · rw [Bool.not_eq_true'] at hb
    have dl : d ≠ s1.length := fun e => by
      rw [e, rtB_len h0] at hb
      cases hb
    refine g_asg (w := .val (.int ((d + 1 : Nat) : Int))) ((ev_addI (ev_var rfl) ev_int).to (by push_cast; rfl)) (g_jp ⟨s1.length - (d + 1), by omega, d + 1, rfl, rfl, rfl, by omega, by omega, fun j h1 h2 => ?_⟩)
    rcases Nat.lt_or_ge j d with h | h
    · exact no j h1 h
    · have : j = d := by omega
      exact this ▸ hb
  · rw [Bool.not_eq_false'] at hb
    exact g_ret hR (ev_slS (ev_var rfl) eo_none (eo_some (ev_var rfl)) (by omega)) ⟨d, ⟨d1, dn, hb, no⟩, rfl, rfl⟩
end
def ct_law_same_ring (K : PySem.W.Frag) : Ct := Ct2 fun a b ka out => ∃ x y, a = .val (.str x) ∧ b = .val (.str y) ∧ x.length ≤ 5000 ∧ y.length ≤ 5000 ∧ ka = [] ∧ out = Rt (.bl (((x.length : Int) == (y.length : Int)) && inS x (y ++ y))) []
section
variable {P : Program} {w : World} {K : PySem.W.Frag} {mg : Str → Option Value} {base : Heap}
theorem ok_law_same_ring (T : Tx K mg) : Fn P w K mg base 4 (He.ga K "_law_same_ring") ["_law_one", "_law_two"] (ct_law_same_ring K) := by
  obtain ⟨fd, F⟩ := T.d_law_same_ring
  refine fn_ok F sc_law_same_ring (fun _ _ _ _ _ _ us hl => match us, hl with | [_, _], _ => rfl) ct2_len (fun cdv A outer s H E hr => ⟨_, (pss_one (ps_ret (pe_and (pe_cmpR (op_eqP (by have := (hr).units; exact this)) (pe_callB call_lenU rfl T.n_len (by decide +kernel) (pa_cons (pv 0) pa_nil)) (pe_callB call_lenU rfl T.n_len (by decide +kernel) (pa_cons (pv 1) pa_nil)) (nomark _)) (pe_one (pe_cmpR op_inX (pv 0) (pe_op op_addU (pv 1) (pv 1)) (by with_unfolding_all rfl)))))), fun ws ka out B F0 Q hC hR hX => ?_⟩)
  obtain ⟨a, b, rfl, x, y, rfl, rfl, hx, hy, rfl, rfl⟩ := hC
  exact g_ret hR (ev_andV (ev_eqI (ev_lenS (ev_var rfl) (by omega)) (ev_lenS (ev_var rfl) (by omega))) fun _ => ev_inX (ev_var rfl) (ev_addS (ev_var rfl) (ev_var rfl) (by omega))) ⟨rfl, rfl⟩
end
def ct_law_due (K : PySem.W.Frag) : Ct := Ct1 fun a ka out => ∃ t, a = .val (.str t) ∧ isTx 40 t = true ∧ ka = [] ∧ out = Rt (knD t) []
section
variable {P : Program} {w : World} {K : PySem.W.Frag} {mg : Str → Option Value} {base : Heap}
theorem ok_law_due (T : Tx K mg) (F_law_windows : Fn P w K mg base 4 (He.ga K "_law_windows") ["_law_text_here", "_law_size"] (ct_law_windows K)) (F_law_window_net : Fn P w K mg base 4 (He.ga K "_law_window_net") ["_law_words"] (ct_law_window_net K)) : Fn P w K mg base 6 (He.ga K "_law_due") ["_law_text_here"] (ct_law_due K) := by
  obtain ⟨fd, F⟩ := T.d_law_due
  refine fn_ok F sc_law_due (fun _ _ _ _ _ _ us hl => match us, hl with | [_], _ => rfl) ct1_len (fun cdv A outer s H E hr => ⟨_, (pss_cons (ps_for (passes_of rfl) rfl (pi_range2 rfl T.n_range (pa_cons pe_int (pa_cons pe_int pa_nil))) (pg_name (i := 1) sc_law_due.nd rfl (by first | exact Or.inl rfl | exact Or.inr rfl)) (pss_cons (ps_asg (pe_call (F_law_window_net.up (by decide)).ok hr rfl T.g_law_window_net.1 T.g_law_window_net.2 (F_law_window_net.up (by decide)).bn .nil (pass_own rfl rfl rfl rfl) (pa_cons (pe_call (F_law_windows.up (by decide)).ok hr rfl T.g_law_windows.1 T.g_law_windows.2 (F_law_windows.up (by decide)).bn .nil (pass_own rfl rfl rfl rfl) (pa_cons (pv 0) (pa_cons (pv 1) pa_nil))) pa_nil)) (pg_lst rfl (pgs_cons (pg_name (i := 2) sc_law_due.nd rfl (by first | exact Or.inl rfl | exact Or.inr rfl)) (pgs_cons (pg_name (i := 3) sc_law_due.nd rfl (by first | exact Or.inl rfl | exact Or.inr rfl)) pgs_nil))))
      (pss_one (ps_if (pt_cmpR (op_eqP (by have := (hr).units; exact this)) (pe_callB call_lenU rfl T.n_len (by decide +kernel) (pa_cons (pv 2) pa_nil)) (pe_callB call_lenU rfl T.n_len (by decide +kernel) (pa_cons (pv 3) pa_nil)) (nomark _))
      (pss_one (ps_ret (pv 1)))
      pss_nil))))
      (pss_one (ps_ret pe_non))), fun ws ka out B F0 Q hC hR hX => ?_⟩)
  obtain ⟨a, rfl, t, rfl, ht, rfl, rfl⟩ := hC
  have tl := (isTx_iff.mp ht).1
  refine q_forn (ei_range2 (ea2 ev_int ev_int) (by decide) (by decide) (by decide) (by decide)) (fun i ro ka => ∃ v1 v2 v3, ro = [some (.val (.str t)), v1, v2, v3] ∧ ka = [] ∧ ∀ j, j < i → knB t (2 + j) = false) ⟨none, none, none, rfl, rfl, fun j h => by omega⟩ (fun _ _ _ _ => trivial) (fun i w ro2 ka2 ta2 hw ⟨v1, v2, v3, e1, e2, e3⟩ => ?_) (fun ro2 ka2 ta2 ⟨v1, v2, v3, e1, e2, e3⟩ _ => ?_)
  · subst e1 e2
    rw [List.getElem?_map] at hw
    obtain ⟨i', hi', rfl⟩ := Option.map_eq_some_iff.mp hw
    obtain ⟨hi1, hi2⟩ := List.getElem?_eq_some_iff.mp hi'
    rw [List.getElem_range] at hi2
    rw [List.length_range] at hi1
    have hi1 : i < 7 := hi1
    subst hi2
    obtain ⟨W, dl, pl, ne⟩ := ord_wds ht (k := 2 + i) (by omega) (by omega)
    refine q_asgT (ev_callP (d := PtD (wnP (inOrd (wins t (2 + i)))) (wnE (inOrd (wins t (2 + i))))) (ea1 (ev_callP (d := .lst (stD (inOrd (wins t (2 + i))))) (ea2 (ev_var rfl) (ev_var rfl)) ⟨_, _, rfl, t, 2 + i, rfl, by push_cast; rfl, tl.1, by omega, by omega, by omega, rfl, rfl⟩)) ⟨_, rfl, _, rfl, (fun x hx => by have := W.le x hx; omega), by omega, by omega, rfl, rfl⟩) at_l2 ?_
    refine g_if (et_test (ev_eqI (ev_len (ds := stD (wnP (inOrd (wins t (2 + i))))) (ev_var rfl) .vl) (ev_len (ds := rwD (wnE (inOrd (wins t (2 + i))))) (ev_var rfl) .vl))) (fun hb => g_ret hR (ev_var rfl) ⟨?_, rfl⟩) (fun hb => g_next (g_jp ⟨_, _, _, rfl, rfl, fun j hj => ?_⟩))
    · rw [stD_len, show (rwD (wnE (inOrd (wins t (2 + i))))).length = (wnE (inOrd (wins t (2 + i)))).length from List.length_map _, wnE_len, beq_iff_eq] at hb
      rw [knD_some hi1 (by unfold knB; exact decide_eq_true (by omega)) e3]
    · rcases Nat.lt_or_ge j i with h | h
      · exact e3 j h
      · have : j = i := by omega
        subst this
        rw [stD_len, show (rwD (wnE (inOrd (wins t (2 + j))))).length = (wnE (inOrd (wins t (2 + j)))).length from List.length_map _, wnE_len, beq_eq_false_iff_ne] at hb
        unfold knB
        exact decide_eq_false (by omega)
  · subst e1 e2
    refine g_ret hR ev_non ⟨?_, rfl⟩
    rw [knD_none fun j hj => e3 j (by rw [List.length_map, List.length_range]; exact hj)]
end
def ct_law_refused (K : PySem.W.Frag) : Ct := Ct1 fun a ka out => ∃ d, a = .val d ∧ nmOk d ∧ isTxD 40 d = false ∧ pl 61 d = true ∧ ka = [] ∧ out = Rt (.bl true) []
section
variable {P : Program} {w : World} {K : PySem.W.Frag} {mg : Str → Option Value} {base : Heap}
theorem ok_law_refused (T : Tx K mg) (F_known_by : Fn P w K mg base 10 (He.ga K "known_by") ["text"] (ct_known_by K)) : Fn P w K mg base 12 (He.ga K "_law_refused") ["_law_thing"] (ct_law_refused K) := by
  obtain ⟨fd, F⟩ := T.d_law_refused
  refine fn_ok F sc_law_refused (fun _ _ _ _ _ _ us hl => match us, hl with | [_], _ => rfl) ct1_len (fun cdv A outer s H E hr => ⟨_, (pss_one (ps_try_as (tb := fun W => (tRet (tOp (rEqP K false) (tAtS fun sg => tCall (spC K (ct_known_by K)) [] (WE W sg) (tCons (tVar 0) tNil)) (tLst (tCons (tVar 0) tNil))))) (ts := fun a cls d => (tRet (tOp (rEqP K false) (tXf a cls d (He.ga K "BadWord") "word" (tVar 1)) (tVar 0)))) rfl rfl sc_law_refused.nd (i := 1) rfl rfl ⟨rfl, by decide, .inl T.g_BadWord.1⟩ (takes_of rfl rfl rfl rfl)
      (fun W pn xe tk hp => (pss_one (ps_ret (pe_cmpR (op_eqP (by have := (hr).units; exact this)) (pe_callSD (F_known_by.up (by decide)).ok hr rfl T.g_known_by.1 T.g_known_by.2 (F_known_by.up (by decide)).bn .nil (passAt tk) (pa_cons (pv 0) pa_nil)) (pe_lst (pa_cons (pv 0) pa_nil)) (nomark _)))))
      (fun a oe cls d pn hz hf => (pss_one (ps_ret (pe_cmpR (op_eqP (by have := (hr).units; exact this)) (pe_xf T.xc_BadWord.xf T.xn_BadWord_word hz hf (pv 1)) (pv 0) (nomark _))))))), fun ws ka out B F0 Q hC hR hX => ?_⟩)
  obtain ⟨a, rfl, d, rfl, hd, hb, hp, rfl, rfl⟩ := hC
  refine g_retOS (C1 := He.ga K "BadWord") (gs := [("word", d)]) (k2 := []) (fun sg => evx_call (k2 := []) (k3 := []) (kr := []) (ea1 (ev_var rfl)) ⟨_, rfl, d, rfl, hd, rfl, (knO_bad hb).symm⟩ rfl) T.ex_BadWord_BadWord fun a dx => ?_
  exact g_ret hR (((ev_eq (d := d) (e := d) (ev_xf (j := 0) (ev_var rfl) rfl lk1) (ev_var rfl) .v .v hp hp).to (by rw [eqD_refl 61 _ hp])).less (List.nil_sublist _)) ⟨rfl, rfl⟩
end
/-- the first letters of texts -/
def fsS (xs : List Str) : Str := ⟨(xs.map fun x => x.cps.toList.headD 0).toArray⟩
theorem join_one : ∀ (cs : List Nat), (Txt.join "" (cs.map fun c => (⟨#[c]⟩ : Str))) = ⟨cs.toArray⟩
  | [] => rfl
  | [c] => rfl
  | c :: d :: r => by
    have ih := join_one (d :: r)
    rw [TL.join_eq] at ih ⊢
    show (⟨#[c]⟩ : Str) ++ "" ++ Str.join "" ((d :: r).map fun c => (⟨#[c]⟩ : Str)) = _
    rw [ih]
    apply str_ext
    rw [cpsApp, cpsApp]
    simp
    rfl
theorem sum_one {α : Type} : ∀ (xs : List α), (xs.map fun _ => 1).sum = xs.length
  | [] => rfl
  | x :: r => by rw [List.map_cons, List.sum_cons, sum_one r, List.length_cons, Nat.add_comm]
/-! ### a net that is one ring -/
/-- every post reaches every other one, and there are lanes -/
structure SgOk (ps : List Str) (es : List Ln) : Prop where
  nd : ps.Nodup
  ln : (lnN es).Nodup
  ne : es ≠ []
  nm : ∀ s ∈ lnN es, isNm s = true
  st : ∀ r ∈ es, r.2.1 ∈ ps
  en : ∀ r ∈ es, r.2.2 ∈ ps
  rc : ∀ p ∈ ps, ∀ q ∈ ps, Rch es p q
theorem few_nd : ∀ {l ps : List Str}, ps.Nodup → (∀ p ∈ ps, p ∈ l) → l.length ≤ ps.length → l.Nodup
  | [], _, _, _, _ => List.nodup_nil
  | x :: t, ps, hn, hs, hl => by
    have hx : ¬ x ∈ t := fun m => by
      have := sub_len hn fun p hp => (List.mem_cons.mp (hs p hp)).elim (fun e => by rw [e]; exact m) id
      rw [List.length_cons] at hl
      omega
    refine List.nodup_cons.mpr ⟨hx, few_nd (ps := ps.erase x) (hn.erase x) (fun p hp => ?_) ?_⟩
    · have hne : p ≠ x := fun e => by subst e; exact (List.Nodup.not_mem_erase hn) hp
      exact (List.mem_cons.mp (hs p (List.mem_of_mem_erase hp))).resolve_left hne
    · rw [List.length_erase]
      rw [List.length_cons] at hl
      split <;> omega
theorem Rch.from {es : List Ln} {p q : Str} (h : Rch es p q) : q = p ∨ ∃ r ∈ es, r.2.1 = p := by
  induction h with
  | refl => exact .inl rfl
  | step _ m e ih => exact .inr (ih.elim (fun z => ⟨_, m, e.trans z⟩) id)
theorem Rch.into {es : List Ln} {p q : Str} (h : Rch es p q) : q = p ∨ ∃ r ∈ es, r.2.2 = q := by
  cases h with
  | refl => exact .inl rfl
  | step _ m e => exact .inr ⟨_, m, rfl⟩
/-- starts and ends told once each -/
structure OrOk (es : List Ln) : Prop where
  s1 : (es.map fun r => r.2.1).Nodup
  e1 : (es.map fun r => r.2.2).Nodup
theorem SgOk.or {ps : List Str} {es : List Ln} (h : SgOk ps es) (hl : ps.length = es.length) : OrOk es := by
  obtain ⟨r0, t, e0⟩ : ∃ r t, es = r :: t := by
    cases es with
    | nil => exact (h.ne rfl).elim
    | cons r t => exact ⟨r, t, rfl⟩
  have m0 : r0 ∈ es := by rw [e0]; exact List.mem_cons_self
  refine ⟨few_nd h.nd (fun p hp => ?_) (by rw [List.length_map]; omega), few_nd h.nd (fun p hp => ?_) (by rw [List.length_map]; omega)⟩
  · rcases (h.rc p hp _ (h.st r0 m0)).from with z | ⟨r, m, z⟩
    · exact List.mem_map.mpr ⟨r0, m0, z⟩
    · exact List.mem_map.mpr ⟨r, m, z⟩
  · rcases (h.rc _ (h.en r0 m0) p hp).into with z | ⟨r, m, z⟩
    · exact List.mem_map.mpr ⟨r0, m0, z.symm⟩
    · exact List.mem_map.mpr ⟨r, m, z⟩
theorem map_inj {α β : Type} {f : α → β} : ∀ {l : List α}, (l.map f).Nodup → ∀ {a b : α}, a ∈ l → b ∈ l → f a = f b → a = b
  | [], _, _, _, ha, _, _ => by cases ha
  | x :: t, hn, a, b, ha, hb, e => by
    rw [List.map_cons] at hn
    obtain ⟨h1, h2⟩ := List.nodup_cons.mp hn
    rcases List.mem_cons.mp ha with ha | ha <;> rcases List.mem_cons.mp hb with hb | hb
    · rw [ha, hb]
    · rw [ha] at e; exact (h1 (List.mem_map.mpr ⟨b, hb, e.symm⟩)).elim
    · rw [hb] at e; exact (h1 (List.mem_map.mpr ⟨a, ha, e⟩)).elim
    · exact map_inj h2 ha hb e
theorem nd_at {α : Type} {xs : List α} (h : xs.Nodup) {i j : Nat} (hi : i < xs.length) (hij : i ≠ j) : xs[i]? ≠ xs[j]? := fun e => by
  rw [List.getElem?_eq_getElem hi] at e
  obtain ⟨hj, ej⟩ := List.getElem?_eq_some_iff.mp e.symm
  exact hij ((List.getElem_inj h).mp ej).symm
/-- the tour as far as it is -/
structure TrOk (es rs : List Ln) : Prop where
  ne : rs ≠ []
  nd : rs.Nodup
  sub : ∀ r ∈ rs, r ∈ es
  ch : ∀ i a b, rs[i]? = some a → rs[i + 1]? = some b → a.2.2 = b.2.1
theorem last_at {rs : List Ln} {l : Ln} (h : rs.getLast? = some l) : rs[rs.length - 1]? = some l := by
  rw [← List.getLast?_eq_getElem?]; exact h
theorem TrOk.one {es : List Ln} {r : Ln} (m : r ∈ es) : TrOk es [r] := ⟨by simp, by simp, fun q hq => by rw [List.mem_singleton.mp hq]; exact m, fun i a b _ hb => by simp at hb⟩
theorem TrOk.add {es rs : List Ln} {h l q : Ln} (o : OrOk es) (t : TrOk es rs) (hh : rs[0]? = some h) (hl : rs.getLast? = some l) (hne : l.2.2 ≠ h.2.1) (hq : q ∈ es) (e : q.2.1 = l.2.2) : TrOk es (rs ++ [q]) := by
  have la := last_at hl
  have hlen : 0 < rs.length := List.length_pos_iff.mpr t.ne
  have nin : ¬ q ∈ rs := fun m => by
    obtain ⟨i, hi⟩ := List.mem_iff_getElem?.mp m
    cases i with
    | zero =>
      rw [hh] at hi
      cases hi
      exact hne e.symm
    | succ i =>
      have hi1 : i + 1 < rs.length := (List.getElem?_eq_some_iff.mp hi).1
      have hi0 : rs[i]? = some rs[i] := List.getElem?_eq_getElem (by omega)
      have c := t.ch i _ _ hi0 hi
      have same : rs[i] = l := map_inj o.e1 (t.sub _ (List.mem_of_getElem? hi0)) (t.sub _ (List.mem_of_getElem? la)) (c.trans e)
      rw [same] at hi0
      exact nd_at t.nd (by omega) (show i ≠ rs.length - 1 by omega) (hi0.trans la.symm)
  refine ⟨by simp, ?_, fun r hr => ?_, fun i a b ha hb => ?_⟩
  · rw [List.nodup_append]
    refine ⟨t.nd, by simp, fun x hx y hy z => nin ?_⟩
    rw [List.mem_singleton.mp hy] at z
    rw [← z]; exact hx
  · rcases List.mem_append.mp hr with hr | hr
    · exact t.sub r hr
    · rw [List.mem_singleton.mp hr]; exact hq
  · have hb1 := (List.getElem?_eq_some_iff.mp hb).1
    rw [List.length_append, List.length_singleton] at hb1
    rw [List.getElem?_append_left (by omega)] at ha
    by_cases c : i + 1 < rs.length
    · rw [List.getElem?_append_left c] at hb
      exact t.ch i a b ha hb
    · have ei : i = rs.length - 1 := by omega
      rw [List.getElem?_append_right (by omega), show i + 1 - rs.length = 0 by omega] at hb
      cases hb
      rw [ei, la] at ha
      cases ha
      exact e.symm
theorem nd_rows {es : List Ln} (h : (lnN es).Nodup) : es.Nodup := by
  refine (List.nodup_iff_pairwise_ne).mpr ?_
  have := List.pairwise_map.mp ((List.nodup_iff_pairwise_ne).mp h)
  exact this.imp fun h e => h (by rw [e])
/-- a closed tour of a net that is one part holds every lane -/
theorem TrOk.all {ps : List Str} {es rs : List Ln} {h l : Ln} (g : SgOk ps es) (o : OrOk es) (t : TrOk es rs) (hh : rs[0]? = some h) (hl : rs.getLast? = some l) (e : l.2.2 = h.2.1) : es.Perm rs := by
  have la := last_at hl
  have mh : h ∈ es := t.sub _ (List.mem_of_getElem? hh)
  have key : ∀ p, Rch es h.2.1 p → ∃ r ∈ rs, r.2.1 = p := fun p hp => by
    induction hp with
    | refl => exact ⟨h, List.mem_of_getElem? hh, rfl⟩
    | @step x r _ m ex ih =>
      obtain ⟨r', m', e'⟩ := ih
      have same : r' = r := map_inj o.s1 (t.sub _ m') m (e'.trans ex.symm)
      subst same
      obtain ⟨i, hi⟩ := List.mem_iff_getElem?.mp m'
      have hi1 := (List.getElem?_eq_some_iff.mp hi).1
      by_cases c : i + 1 < rs.length
      · have hb : rs[i + 1]? = some rs[i + 1] := List.getElem?_eq_getElem c
        exact ⟨_, List.mem_of_getElem? hb, (t.ch i _ _ hi hb).symm⟩
      · rw [show i = rs.length - 1 by omega, la] at hi
        cases hi
        exact ⟨h, List.mem_of_getElem? hh, e.symm⟩
  refine (List.perm_ext_iff_of_nodup (nd_rows g.ln) t.nd).mpr fun r => ⟨fun m => ?_, t.sub r⟩
  obtain ⟨r', m', e'⟩ := key _ (g.rc _ (g.st h mh) _ (g.st r m))
  rw [map_inj o.s1 m (t.sub _ m') e'.symm]
  exact m'
section
variable {s : Str} {D : List Str} {k : Nat}
theorem win_wk (hD : ∀ x, x ∈ D ↔ x ∈ wins s (k + 1)) (h0 : 1 ≤ s.length) (i : Nat) : ∀ m, Wk (wnE D) (winS s k i) ((List.range m).map fun j => winS s (k + 1) (i + j)) (winS s k (i + m))
  | 0 => rfl
  | m + 1 => by
    have r : (winS s (k + 1) (i + m), winS s k (i + m), winS s k (i + m + 1)) ∈ wnE D := List.mem_map.mpr ⟨winS s (k + 1) (i + m), (hD _).mpr (win_mem h0 _ _), by rw [ini_win, tai_win]⟩
    rw [List.range_succ, List.map_append]
    exact Wk.snoc r (win_wk hD h0 i m)
theorem win_per (c : Nat) (i : Nat) : winS s k (i + s.length * c) = winS s k i := by rw [← winS_mod, Nat.add_mul_mod_self_left, winS_mod]
theorem win_rch (hD : ∀ x, x ∈ D ↔ x ∈ wins s (k + 1)) (h0 : 1 ≤ s.length) (i j : Nat) : Rch (wnE D) (winS s k i) (winS s k j) := by
  have := Wk.rch (s := winS s k i) .refl (win_wk hD h0 i (j + s.length * i - i))
  have le : i ≤ s.length * i := Nat.le_mul_of_pos_left i h0
  rw [show i + (j + s.length * i - i) = j + s.length * i by omega, win_per] at this
  exact this
end
/-! ### hidden texts: closed walks on a net of words -/
theorem fs_cps (xs : List Str) : (fsS xs).cps.toList = xs.map fun x => x.cps.toList.headD 0 := rfl
theorem fs_len (xs : List Str) : (fsS xs).length = xs.length := by rw [str_len, fs_cps, List.length_map]
theorem hid_next {D : List Str} {q : Str} {ls : List Str} (wk : Wk (wnE D) q ls q) (h0 : ls ≠ []) (i : Nat) : taiS (ls.getD (i % ls.length) "") = iniS (ls.getD ((i + 1) % ls.length) "") := by
  have lp : 0 < ls.length := List.length_pos_iff.mpr h0
  have hm := Nat.mod_lt i lp
  obtain ⟨r, hr, e1, _, e3, e4⟩ := wk_at wk (getD_at hm)
  obtain ⟨x, hx, rfl⟩ := List.mem_map.mp hr
  have e1 : x = ls.getD (i % ls.length) "" := e1
  rw [← e1]
  by_cases c : i % ls.length + 1 = ls.length
  · have e : (i + 1) % ls.length = 0 := by rw [← Nat.mod_add_mod, c, Nat.mod_self]
    obtain ⟨r0, hr0, f1, f2, _⟩ := wk_at wk (getD_at lp)
    obtain ⟨y, hy, rfl⟩ := List.mem_map.mp hr0
    have f1 : y = ls.getD 0 "" := f1
    rw [e, ← f1]
    exact (e3 c).trans (f2 rfl).symm
  · have e : (i + 1) % ls.length = i % ls.length + 1 := by rw [← Nat.mod_add_mod, Nat.mod_eq_of_lt (by omega)]
    obtain ⟨r0, hr0, f1, f2⟩ := e4 _ (getD_at (show i % ls.length + 1 < ls.length by omega))
    obtain ⟨y, hy, rfl⟩ := List.mem_map.mp hr0
    have f1 : y = ls.getD (i % ls.length + 1) "" := f1
    rw [e, ← f1]
    exact f2.symm
theorem hid_in {D : List Str} {q : Str} {ls : List Str} (wk : Wk (wnE D) q ls q) : ∀ x ∈ ls, x ∈ D := fun x hx => by
  obtain ⟨i, hi⟩ := List.mem_iff_getElem?.mp hx
  obtain ⟨r, hr, e1, _⟩ := wk_at wk hi
  obtain ⟨y, hy, rfl⟩ := List.mem_map.mp hr
  exact (show y = x from e1) ▸ hy
theorem hid_get {ls : List Str} (i : Nat) (h0 : ls ≠ []) : (ls.map fun x : Str => x.cps.toList.headD 0).getD (i % ls.length) 0 = (ls.getD (i % ls.length) "").cps.toList.headD 0 := by
  have hm := Nat.mod_lt i (List.length_pos_iff.mpr h0)
  rw [List.getD_eq_getElem?_getD, List.getElem?_map, getD_at hm]
  rfl
/-- the text of a closed walk has just its words as windows, in turn -/
theorem hid_win {D : List Str} {k : Nat} (W : WdsOk k D) {q : Str} {ls : List Str} (wk : Wk (wnE D) q ls q) (h0 : ls ≠ []) : wins (fsS ls) k = ls := by
  have lp : 0 < ls.length := List.length_pos_iff.mpr h0
  have len : ∀ i, (ls.getD (i % ls.length) "").cps.toList.length = k := fun i => by
    rw [← str_len]
    exact W.le _ (hid_in wk _ (List.mem_of_getElem? (getD_at (Nat.mod_lt i lp))))
  have cell : ∀ j i, j < k → (ls.getD (i % ls.length) "").cps.toList[j]? = some ((ls.getD ((i + j) % ls.length) "").cps.toList.headD 0) := by
    intro j
    induction j with
    | zero =>
      intro i hk
      have l := len i
      rw [Nat.add_zero]
      cases h : (ls.getD (i % ls.length) "").cps.toList with
      | nil => rw [h] at l; simp at l; omega
      | cons c r => rfl
    | succ j ih =>
      intro i hk
      have t : (taiS (ls.getD (i % ls.length) "")).cps.toList[j]? = (iniS (ls.getD ((i + 1) % ls.length) "")).cps.toList[j]? := by rw [hid_next wk h0 i]
      rw [taiS_cps, iniS_cps, List.getElem?_drop, List.getElem?_dropLast, len, if_pos (by omega), Nat.add_comm 1 j] at t
      rw [t, ih (i + 1) (by omega), show i + 1 + j = i + (j + 1) by omega]
  apply List.ext_getElem?
  intro i
  by_cases hi : i < ls.length
  · rw [getD_at hi]
    unfold wins
    rw [List.getElem?_map, List.getElem?_range (by rw [fs_len]; exact hi)]
    show some (winS (fsS ls) k i) = _
    congr 1
    apply str_ext
    show winL (fsS ls).cps.toList k i = _
    apply List.ext_getElem?
    intro j
    by_cases hj : j < k
    · rw [winL_at hj, fs_cps, List.length_map, hid_get _ h0]
      have := cell j i hj
      rw [Nat.mod_eq_of_lt hi] at this
      exact this.symm
    · have l := len i
      rw [Nat.mod_eq_of_lt hi] at l
      rw [List.getElem?_eq_none (by rw [winL_len]; omega), List.getElem?_eq_none (by omega)]
  · rw [List.getElem?_eq_none (by rw [wins_len, fs_len]; omega), List.getElem?_eq_none (by omega)]
/-- a hidden text: its windows are just the words -/
structure HidOk (k : Nat) (D : List Str) (t : Str) : Prop where
  l1 : 1 ≤ t.length
  l6 : t.length ≤ 900
  le : ∀ c ∈ t.cps.toList, c ∈ letL
  wi : ∀ x, x ∈ D ↔ x ∈ wins t k
/-- all posts of the windows lie in one part -/
theorem mut_all {s : Str} {D : List Str} {k : Nat} (hD : ∀ x, x ∈ D ↔ x ∈ wins s (k + 1)) (h0 : 1 ≤ s.length) : winS s k 0 ∈ wnP D ∧ mutL (wnP D) (wnE D) (winS s k 0) = wnP D ∧ innL (wnE D) (wnP D) = D := by
  classical
  have inP : ∀ i, winS s k i ∈ wnP D := fun i => mem_wnP.mpr ⟨winS s (k + 1) i, (hD _).mpr (win_mem h0 _ _), .inl (by rw [ini_win])⟩
  refine ⟨inP 0, (mutL_eq _ _ _ (inP 0)).symm.trans (List.filter_eq_self.mpr fun q hq => ?_), ?_⟩
  · obtain ⟨x, hx, e⟩ := mem_wnP.mp hq
    obtain ⟨i, _, rfl⟩ := mem_wins.mp ((hD x).mp hx)
    rw [ini_win, tai_win] at e
    rw [Bool.and_eq_true, decide_eq_true_eq, decide_eq_true_eq]
    rcases e with rfl | rfl <;> exact ⟨win_rch hD h0 _ _, win_rch hD h0 _ _⟩
  · have : (wnE D).filter (fun r => decide (r.2.1 ∈ wnP D) && decide (r.2.2 ∈ wnP D)) = wnE D := List.filter_eq_self.mpr fun r hr => by
      obtain ⟨x, hx, rfl⟩ := List.mem_map.mp hr
      rw [Bool.and_eq_true, decide_eq_true_eq, decide_eq_true_eq]
      exact ⟨mem_wnP.mpr ⟨x, hx, .inl rfl⟩, mem_wnP.mpr ⟨x, hx, .inr rfl⟩⟩
    unfold innL
    rw [this, wnE_nm]
theorem join_heads {K : PySem.W.Frag} {ro : Ro} {ka k1 : Cells} {ls : List Str} {te ti : TE} (hx : ∀ x ∈ ls, 1 ≤ x.length ∧ x.length ≤ 8) (hl : ls.length ≤ 10000) (h : EvD K te ro ka (.val (.lst (stD (ls.map fun x => (⟨#[x.cps.toList.headD 0]⟩ : Str))))) k1) (hs : EvD K ti ro ka (.val (.str "")) ka) : EvD K (tM1 (rJoin K) ti te) ro ka (.val (.str (fsS ls))) k1 := by
  refine (ev_join (t := false) (ss := (ls.map fun x => x.cps.toList.headD 0).map fun c => (⟨#[c]⟩ : Str)) hs h ?lk ?sz).to ?_
  case lk =>
    rw [List.map_map]
    exact .vl
  case sz =>
    rw [List.map_map, List.map_map, List.length_map, List.length_map]
    refine Nat.le_trans (Nat.add_le_add (Nat.le_of_eq (sum_one ls)) (Nat.le_refl _)) ?_
    show ls.length + ls.length * 0 ≤ 100000
    omega
  rw [join_one]
  rfl
/-! ### texts gone without end, their least parts -/
def wS (s : Str) (i : Nat) : Nat := s.cps.toList.getD (i % s.cps.toList.length) 0
def Per (f : Nat → Nat) (d : Nat) : Prop := ∀ i, f (i + d) = f i
theorem Per.mul {f : Nat → Nat} {d : Nat} (h : Per f d) (q i : Nat) : f (i + d * q) = f i := by
  induction q with
  | zero => rw [Nat.mul_zero, Nat.add_zero]
  | succ q ih => rw [Nat.mul_succ, ← Nat.add_assoc, h, ih]
theorem Per.mod {f : Nat → Nat} {d : Nat} (h : Per f d) (i : Nat) : f (i % d) = f i := by
  have := h.mul (i / d) (i % d)
  rw [Nat.mod_add_div] at this
  exact this.symm
theorem Per.gcd {f : Nat → Nat} (a b : Nat) : Per f a → Per f b → Per f (Nat.gcd a b) := by
  induction a, b using Nat.gcd.induction with
  | H0 b => intro _ h; rwa [Nat.gcd_zero_left]
  | H1 a b ha ih =>
    intro h1 h2
    rw [Nat.gcd_rec]
    refine ih (fun i => ?_) h1
    have := h1.mul (b / a) (i + b % a)
    rw [Nat.add_assoc, Nat.mod_add_div, h2] at this
    exact this.symm
theorem wS_per (s : Str) : Per (wS s) s.length := fun i => by
  unfold wS
  rw [str_len, Nat.add_mod_right]
theorem wS_at {s : Str} {j : Nat} (h : j < s.length) : s.cps.toList[j]? = some (wS s j) := by
  have h : j < s.cps.toList.length := by rw [← str_len]; exact h
  unfold wS
  rw [Nat.mod_eq_of_lt h, List.getD_eq_getElem?_getD, List.getElem?_eq_getElem h]
  rfl
/-- the text is its first d letters again and again just if d is a period that divides its length -/
theorem rtB_iff {s : Str} {d : Nat} (d1 : 1 ≤ d) (dn : d ≤ s.length) : rtB s d = true ↔ s.length % d = 0 ∧ Per (wS s) d := by
  unfold rtB
  rw [Bool.and_eq_true, decide_eq_true_eq, beq_iff_eq]
  refine and_congr_right fun hd => ?_
  have cl := cut_len dn
  have cc := cut_any s d
  have rl := repS_len (s.length / d) (cutS s none (some (d : Int)))
  have dv : d * (s.length / d) = s.length := Nat.mul_div_cancel' (Nat.dvd_of_mod_eq_zero hd)
  have rl2 : (repS (s.length / d) (cutS s none (some (d : Int)))).length = s.length := by
    rw [rl, cl, Nat.mul_comm]
    exact dv
  have at_ : ∀ j, j < s.length → (repS (s.length / d) (cutS s none (some (d : Int)))).cps.toList[j]? = some (wS s (j % d)) := fun j hj => by
    have e := (enp_rep (cutS s none (some (d : Int))).cps.toList (s.length / d)).1 j (by
      have : (List.replicate (s.length / d) (cutS s none (some (d : Int))).cps.toList).flatten.length = (repS (s.length / d) (cutS s none (some (d : Int)))).length := (str_len (repS (s.length / d) (cutS s none (some (d : Int))))).symm
      rw [this, rl2]
      exact hj)
    refine (show _ = _ from e).trans ?_
    congr 1
    have jd : j % d < d := Nat.mod_lt _ d1
    rw [← str_len, cl, List.getD_eq_getElem?_getD, cc, List.getElem?_take_of_lt jd, wS_at (by omega)]
    rfl
  constructor
  · intro e
    have key : ∀ j, j < s.length → wS s j = wS s (j % d) := fun j hj => by
      have := at_ j hj
      rw [e, wS_at hj] at this
      exact Option.some.inj this
    have all : ∀ i, wS s i = wS s (i % d) := fun i => by
      rw [← (wS_per s).mod i, key _ (Nat.mod_lt _ (by omega)), Nat.mod_mod_of_dvd _ (Nat.dvd_of_mod_eq_zero hd)]
    intro i
    rw [all (i + d), Nat.add_mod_right, ← all i]
  · intro h
    apply str_ext
    apply List.ext_getElem?
    intro j
    by_cases hj : j < s.length
    · rw [at_ j hj, wS_at hj, h.mod]
    · rw [List.getElem?_eq_none (by rw [← str_len, rl2]; omega), List.getElem?_eq_none (by rw [← str_len]; omega)]
theorem RtN.le {s : Str} {d e : Nat} (h : RtN s d) (e1 : 1 ≤ e) (p : Per (wS s) e) : d ≤ e := by
  have n1 := Nat.le_trans h.d1 h.dn
  have g := p.gcd _ _ (wS_per s)
  have g1 : 1 ≤ Nat.gcd e s.length := Nat.gcd_pos_of_pos_left _ e1
  have gn : Nat.gcd e s.length ≤ s.length := Nat.le_of_dvd n1 (Nat.gcd_dvd_right _ _)
  have ge : Nat.gcd e s.length ≤ e := Nat.le_of_dvd e1 (Nat.gcd_dvd_left _ _)
  have r := (rtB_iff g1 gn).mpr ⟨Nat.mod_eq_zero_of_dvd (Nat.gcd_dvd_right _ _), g⟩
  refine Classical.byContradiction fun z => ?_
  rw [h.no _ g1 (by omega)] at r
  cases r
/-- two texts that go on alike from somewhere have the same least part, begun elsewhere -/
theorem root_same {o t : Str} {a b c : Nat} (ha : RtN o a) (hb : RtN t b) (h : ∀ i, wS o i = wS t (i + c)) : a = b ∧ inS (cutS o none (some (a : Int))) (cutS t none (some (b : Int)) ++ cutS t none (some (b : Int))) = true := by
  have pa := ((rtB_iff ha.d1 ha.dn).mp ha.is).2
  have pb := ((rtB_iff hb.d1 hb.dn).mp hb.is).2
  have n1 := Nat.le_trans hb.d1 hb.dn
  have ab : a ≤ b := ha.le hb.d1 fun i => by rw [h, h, Nat.add_right_comm, pb]
  have ba : b ≤ a := hb.le ha.d1 fun i => by
    have le : c ≤ t.length * c := Nat.le_mul_of_pos_left c n1
    have e : ∀ m, wS t m = wS o (m + t.length * c - c) := fun m => by
      rw [h, Nat.sub_add_cancel (by omega), (wS_per t).mul]
    rw [e, e, show i + a + t.length * c - c = i + t.length * c - c + a by omega, pa]
  have eq : a = b := Nat.le_antisymm ab ba
  subst eq
  refine ⟨rfl, (inS_iff _ _).mpr ?_⟩
  have co := cut_any o a
  have ct := cut_any t a
  have lt : (t.cps.toList.take a).length = a := by rw [List.length_take, ← str_len]; have := hb.dn; omega
  have tt : ∀ j, j < a + a → ((t.cps.toList.take a) ++ (t.cps.toList.take a))[j]? = some (wS t j) := fun j hj => by
    have hn := hb.dn
    by_cases c1 : j < a
    · rw [List.getElem?_append_left (by omega), List.getElem?_take_of_lt c1, wS_at (by omega)]
    · rw [List.getElem?_append_right (by omega), lt, List.getElem?_take_of_lt (by omega), wS_at (by omega)]
      have := pb (j - a)
      rw [Nat.sub_add_cancel (by omega)] at this
      rw [this]
  have hr : c % a < a := Nat.mod_lt _ ha.d1
  refine ⟨((t.cps.toList.take a) ++ (t.cps.toList.take a)).take (c % a), (((t.cps.toList.take a) ++ (t.cps.toList.take a)).drop (c % a)).drop a, ?_⟩
  have piece : (cutS o none (some (a : Int))).cps.toList = (((t.cps.toList.take a) ++ (t.cps.toList.take a)).drop (c % a)).take a := by
    rw [co]
    apply List.ext_getElem?
    intro j
    have hn := ha.dn
    by_cases hj : j < a
    · rw [List.getElem?_take_of_lt hj, List.getElem?_take_of_lt hj, List.getElem?_drop, tt _ (by omega), wS_at (by omega), h, Nat.add_comm (c % a) j]
      rw [← pb.mod (j + c), ← pb.mod (j + c % a), Nat.add_mod_mod]
    · rw [List.getElem?_eq_none (by rw [List.length_take]; omega), List.getElem?_eq_none (by rw [List.length_take]; omega)]
  rw [cpsApp, ct, piece, List.append_assoc, List.take_append_drop, List.take_append_drop]
theorem inj_of_nd {α β : Type} {f : α → β} {xs : List α} (h : (xs.map f).Nodup) {x y : α} (hx : x ∈ xs) (hy : y ∈ xs) (e : f x = f y) : x = y := by
  obtain ⟨i, hi⟩ := List.mem_iff_getElem?.mp hx
  obtain ⟨j, hj⟩ := List.mem_iff_getElem?.mp hy
  have h1 : (xs.map f)[i]? = some (f x) := by rw [List.getElem?_map, hi]; rfl
  have h2 : (xs.map f)[j]? = some (f x) := by rw [List.getElem?_map, hj, e]; rfl
  have := (List.getElem?_inj (List.getElem?_eq_some_iff.mp h1).1 h).mp (h1.trans h2.symm)
  subst this
  rw [hi] at hj
  exact Option.some.inj hj
/-- where each post has one lane, a hidden text goes on as the text does -/
theorem hid_same {t : Str} {k : Nat} {D ls : List Str} {q : Str} (hk : 1 ≤ k) (W : WdsOk (k + 1) D) (nd : D.Nodup) (hD : ∀ x, x ∈ D ↔ x ∈ wins t (k + 1)) (h0 : 1 ≤ t.length) (hl : (wnP D).length = D.length) (wk : Wk (wnE D) q ls q) (hne : ls ≠ []) : ∃ c, ∀ i, wS (fsS ls) i = wS t (i + c) := by
  have inj : ∀ x ∈ D, ∀ y ∈ D, iniS x = iniS y → x = y := by
    have n2 : (D.map iniS).Nodup := by
      refine few_nd (inOrd_nd _) (ps := wnP D) (fun p hp => ?_) (by rw [List.length_map]; omega)
      obtain ⟨x, hx, e⟩ := mem_wnP.mp hp
      obtain ⟨i, hi, rfl⟩ := mem_wins.mp ((hD x).mp hx)
      rw [ini_win, tai_win] at e
      rcases e with rfl | rfl
      · exact List.mem_map.mpr ⟨winS t (k + 1) i, hx, ini_win _ _ _⟩
      · exact List.mem_map.mpr ⟨winS t (k + 1) (i + 1), (hD _).mpr (win_mem h0 _ _), ini_win _ _ _⟩
    exact fun x hx y hy e => inj_of_nd n2 hx hy e
  have o1 : 1 ≤ (fsS ls).length := by
    rw [fs_len]
    exact List.length_pos_iff.mpr hne
  have wn := hid_win W wk hne
  have inO : ∀ i, winS (fsS ls) (k + 1) i ∈ D := fun i => by
    have := win_mem o1 (k + 1) i
    rw [wn] at this
    exact hid_in wk _ this
  obtain ⟨c, _, hc⟩ := mem_wins.mp ((hD _).mp (inO 0))
  have go : ∀ i, winS (fsS ls) k i = winS t k (i + c) := fun i => by
    induction i with
    | zero =>
      have := congrArg iniS hc
      rw [ini_win, ini_win] at this
      rw [Nat.zero_add]
      exact this.symm
    | succ i ih =>
      have e := inj _ (inO i) _ ((hD _).mpr (win_mem h0 (k + 1) (i + c))) (by rw [ini_win, ini_win, ih])
      have := congrArg taiS e
      rw [tai_win, tai_win] at this
      rw [this, Nat.add_right_comm]
  refine ⟨c, fun i => ?_⟩
  have e := congrArg (fun z : Str => z.cps.toList[0]?) (go i)
  have e : (winL (fsS ls).cps.toList k i)[0]? = (winL t.cps.toList k (i + c))[0]? := e
  rw [winL_at hk, winL_at hk] at e
  exact Option.some.inj e
def ct_law_all_alike (K : PySem.W.Frag) : Ct := Ct3 fun a b c ka out => ∃ ns t, ∃ k : Nat, Scr K a ns ∧ b = .val (.str t) ∧ c = .val (.int (k : Int)) ∧ isTx 40 t = true ∧ 2 ≤ k ∧ k ≤ 8 ∧ knB t k = true ∧ ka = [] ∧ out = Rt (.bl true) []
section
variable {P : Program} {w : World} {K : PySem.W.Frag} {mg : Str → Option Value} {base : Heap}
theorem ok_law_all_alike (T : Tx K mg) (F_law_cell : Fn P w K mg base 4 (He.ga K "_law_cell") ["_law_script", "_law_k"] (ct_law_cell K)) (F_law_pool : Fn P w K mg base 4 (He.ga K "_law_pool") ["_law_cell_here"] (ct_law_pool K)) (F_law_hidden : Fn P w K mg base 8 (He.ga K "_law_hidden") ["_law_pool_here", "_law_parts", "_law_part", "_law_wanted"] (ct_law_hidden K)) (F_law_windows : Fn P w K mg base 4 (He.ga K "_law_windows") ["_law_text_here", "_law_size"] (ct_law_windows K)) (F_law_window_net : Fn P w K mg base 4 (He.ga K "_law_window_net") ["_law_words"] (ct_law_window_net K)) (F_law_root : Fn P w K mg base 4 (He.ga K "_law_root") ["_law_text_here"] (ct_law_root K)) (F_law_same_ring : Fn P w K mg base 4 (He.ga K "_law_same_ring") ["_law_one", "_law_two"] (ct_law_same_ring K)) : Fn P w K mg base 10 (He.ga K "_law_all_alike") ["_law_script", "_law_text_here", "_law_size"] (ct_law_all_alike K) := by
  obtain ⟨fd, F⟩ := T.d_law_all_alike
  refine fn_ok F sc_law_all_alike (fun _ _ _ _ _ _ us hl => match us, hl with | [_, _, _], _ => rfl) ct3_len (fun cdv A outer s H E hr => ⟨_, (pss_cons (ps_set (i := 3) sc_law_all_alike.nd rfl (by first | exact Or.inl rfl | exact Or.inr rfl) (pe_call (F_law_windows.up (by decide)).ok hr rfl T.g_law_windows.1 T.g_law_windows.2 (F_law_windows.up (by decide)).bn .nil (pass_own rfl rfl rfl rfl) (pa_cons (pv 1) (pa_cons (pv 2) pa_nil))))
      (pss_cons (ps_set (i := 4) sc_law_all_alike.nd rfl (by first | exact Or.inl rfl | exact Or.inr rfl) (pe_call (F_law_window_net.up (by decide)).ok hr rfl T.g_law_window_net.1 T.g_law_window_net.2 (F_law_window_net.up (by decide)).bn .nil (pass_own rfl rfl rfl rfl) (pa_cons (pv 3) pa_nil)))
      (pss_cons (ps_for (passes_of rfl) rfl (pi_range1 rfl T.n_range (pa_cons pe_int pa_nil)) (pg_name (i := 5) sc_law_all_alike.nd rfl (by first | exact Or.inl rfl | exact Or.inr rfl)) (pss_cons (ps_set (i := 6) sc_law_all_alike.nd rfl (by first | exact Or.inl rfl | exact Or.inr rfl) (pe_call (F_law_hidden.up (by decide)).ok hr rfl T.g_law_hidden.1 T.g_law_hidden.2 (F_law_hidden.up (by decide)).bn .nil (pass_own rfl rfl rfl rfl) (pa_cons (pe_call (F_law_pool.up (by decide)).ok hr rfl T.g_law_pool.1 T.g_law_pool.2 (F_law_pool.up (by decide)).bn .nil (pass_own rfl rfl rfl rfl) (pa_cons (pe_op op_addU (pe_call (F_law_cell.up (by decide)).ok hr rfl T.g_law_cell.1 T.g_law_cell.2 (F_law_cell.up (by decide)).bn .nil (pass_own rfl rfl rfl rfl) (pa_cons (pv 0) (pa_cons (pe_op op_addU pe_int (pv 5)) pa_nil))) (pv 5)) pa_nil)) (pa_cons (pv 4) (pa_cons (pe_lst (pa_cons (pe_ix ix_seq (pv 4) pe_int fun _ _ => rfl) (pa_cons (pv 3) pa_nil))) (pa_cons (pv 3) pa_nil))))))
      (pss_cons (ps_set (i := 8) sc_law_all_alike.nd rfl (by first | exact Or.inl rfl | exact Or.inr rfl) (pe_join pe_str (pe_lc (te := (tOp (rIx K) (tVar 7) (tC (.int 0)))) (tt := tYes) (own := [("_law_word", 7)]) rfl sc_law_all_alike.nd (pi_seq (pv 6)) (blk_ok ["_law_script", "_law_text_here", "_law_size", "_law_words", "_law_parts", "_law_k", "_law_tour", "_law_word", "_law_other"] (defScope s_law_all_alike) rfl rfl (by decide +kernel)) (fun _ _ _ _ _ => (pg_name (i := 7) sc_law_all_alike.nd rfl (by first | exact Or.inl rfl | exact Or.inr rfl))) (fun _ _ _ _ _ => pts_nil) (fun _ _ _ _ _ => (pe_ix ix_seq (pv 7) pe_int fun _ _ => rfl)))))
      (pss_one (ps_if (pt_not (pt_val (pe_call (F_law_same_ring.up (by decide)).ok hr rfl T.g_law_same_ring.1 T.g_law_same_ring.2 (F_law_same_ring.up (by decide)).bn .nil (pass_own rfl rfl rfl rfl) (pa_cons (pe_call (F_law_root.up (by decide)).ok hr rfl T.g_law_root.1 T.g_law_root.2 (F_law_root.up (by decide)).bn .nil (pass_own rfl rfl rfl rfl) (pa_cons (pv 8) pa_nil)) (pa_cons (pe_call (F_law_root.up (by decide)).ok hr rfl T.g_law_root.1 T.g_law_root.2 (F_law_root.up (by decide)).bn .nil (pass_own rfl rfl rfl rfl) (pa_cons (pv 1) pa_nil)) pa_nil)))))
      (pss_one (ps_ret pe_bl))
      pss_nil)))))
      (pss_one (ps_ret pe_bl))))), fun ws ka out B F0 Q hC hR hX => ?_⟩)
  obtain ⟨s0, b, c, rfl, ns, t, k, hs0, rfl, rfl, ht, hk2, hk8, hkn, rfl, rfl⟩ := hC
  have tl := (isTx_iff.mp ht).1
  obtain ⟨hW, Dl, Dp, Dne⟩ := ord_wds ht hk2 hk8
  obtain ⟨k, rfl⟩ : ∃ j, k = j + 1 := ⟨k - 1, by omega⟩
  have hD : ∀ x, x ∈ inOrd (wins t (k + 1)) ↔ x ∈ wins t (k + 1) := fun x => mem_inOrd
  have nd := inOrd_nd (wins t (k + 1))
  have ok := wn_ok hW nd Dp (by omega)
  have same : (wnP (inOrd (wins t (k + 1)))).length = (inOrd (wins t (k + 1))).length := of_decide_eq_true hkn
  obtain ⟨p0, mA, iA⟩ := mut_all hD tl.1
  have x8 : ∀ x ∈ inOrd (wins t (k + 1)), 1 ≤ x.length ∧ x.length ≤ 8 := fun x hx => (isTx_iff.mp (hW.tx x hx)).1
  refine q_asg (ev_callP (d := .lst (stD (inOrd (wins t (k + 1))))) (ea2 (ev_var rfl) (ev_var rfl)) ⟨_, _, rfl, t, k + 1, rfl, rfl, tl.1, by omega, by omega, by omega, rfl, rfl⟩) ?_
  generalize hDs : inOrd (wins t (k + 1)) = Ds at *
  have rA : innR (wnE Ds) (wnP Ds) = wnE Ds := List.filter_eq_self.mpr fun r hr => by
    have := ok.st r hr
    rw [decide_eq_true this.1, decide_eq_true this.2]
    rfl
  refine q_asg (ev_callP (ea1 (ev_var rfl)) ⟨_, rfl, Ds, rfl, fun x hx => Nat.le_trans (x8 x hx).2 (by decide), by omega, by omega, rfl, rfl⟩) ?_
  refine q_forn (ei_range1 (ea1 ev_int) (by decide) (by decide)) (fun i ro ka => ∃ v5 v6 v8, ro = [some s0, some (.val (.str t)), some (.val (.int ((k + 1 : Nat) : Int))), some (.val (.lst (stD Ds))), some (.val (PtD (wnP Ds) (wnE Ds))), v5, v6, none, v8] ∧ ka = []) ⟨none, none, none, rfl, rfl⟩ (fun _ _ _ _ => trivial) (fun i w ro2 ka2 ta2 hw ⟨v5, v6, v8, e1, e2⟩ => ?turn) (fun ro2 ka2 ta2 ⟨v5, v6, v8, e1, e2⟩ _ => by subst e1 e2; exact g_ret hR ev_bl ⟨rfl, rfl⟩)
  case turn =>
  subst e1 e2
  rw [List.getElem?_map] at hw
  obtain ⟨i', hi', rfl⟩ := Option.map_eq_some_iff.mp hw
  refine q_asgR (evr_callAR (ear_cons (P := fun w k' => ∃ p pz, w = .val (.adr p) ∧ k' = [(p, .lst (Pl.ds pz))] ∧ pz.Ok 0) (R := fun w us k' => ∃ p pz, w = .val (.adr p) ∧ us = [.val (PtD (wnP Ds) (wnE Ds)), .val (.lst [.lst (stD (mutL (wnP Ds) (wnE Ds) (winS t k 0))), .lst (stD (innL (wnE Ds) (mutL (wnP Ds) (wnE Ds) (winS t k 0))))]), .val (.lst (stD Ds))] ∧ k' = [(p, .lst (Pl.ds pz))] ∧ pz.Ok 0) (EvR.imp (EvN.adr (evn_callP (ea1 (ev_addI (ev_callP (ea2 (ev_var rfl) (ev_addI ev_int (ev_var rfl))) ⟨_, _, rfl, ns, 4 + i', hs0, by push_cast; rfl, rfl, rfl⟩) (ev_var rfl))) ⟨_, rfl, _, rfl, rfl, rfl⟩)) fun w k ⟨p, e1, e2⟩ => ⟨p, _, e1, e2, plOf_ok _⟩) (fun w k' ⟨p, pz, e1, e2, e3⟩ => EvAR.imp (ea3 (ev_var rfl) ((evn_lst (ds := [.lst (stD (wnP Ds)), .lst (stD Ds)]) (ea2 (ev_ixV (ev_var rfl) ev_int .vl at0) (ev_var rfl)) (show 2 ≤ 100000 by decide)).lst.to (by rw [mA, iA])) (ev_var rfl)).toR fun us k' h => ⟨p, pz, e1, h.1, h.2.trans e2, e3⟩)) (P2 := fun w k' => ∃ p pz b T q, w = .val (.adr b) ∧ k' = [(p, .lst (Pl.ds pz)), (b, .lst (stD T))] ∧ Wk (wnE Ds) q T q ∧ (∀ x ∈ Ds, x ∈ T) ∧ T.length ≤ (Ds.length + 1) * (7 + (wnP Ds).length)) fun us k' hk => ?call) ?_
  case call =>
    obtain ⟨w, us', rfl, p, pz, rfl, rfl, rfl, hpz⟩ := hk
    refine ⟨_, [(p, .lst pz.ds)], [], _, List.Perm.refl _, rfl, ⟨_, _, _, _, rfl, p, pz, 0, wnP Ds, wnE Ds, winS t k 0, Ds, rfl, rfl, rfl, rfl, rfl, hpz, by decide, by decide, p0, ok.st, ok.ed, by omega, by rw [wnE_len]; omega, Dne, by omega, fun x hx => by rw [mA, iA]; exact hx, rfl⟩, fun o k ⟨b, ls, q, p', h, _⟩ => ⟨_, h⟩, ?_⟩
    rintro d k2 ⟨b, ls, q, p', e1, e2, _, _, h1, h2, h3⟩
    cases e1
    rw [mA, rA] at h1
    exact ⟨p, p', b, ls, q, rfl, by rw [e2, List.append_nil], h1, h2, h3⟩
  rintro _ _ ⟨p, pz, b, T, q, rfl, rfl, wk, has, hTl⟩
  have hne : T ≠ [] := fun z => by
    obtain ⟨w0, hw0⟩ := List.exists_mem_of_ne_nil _ Dne
    have := has w0 hw0
    rw [z] at this
    cases this
  have hT2 : (Ds.length + 1) * (7 + (wnP Ds).length) ≤ 41 * 47 := Nat.mul_le_mul (by omega) (by omega)
  have inD := hid_in wk
  have Tp := List.length_pos_iff.mpr hne
  obtain ⟨c, hc⟩ := hid_same (by omega) hW nd hD tl.1 same wk hne
  refine Gp.frz (i := 6) (j := 1) rfl rfl ?_
  refine Gp.less (k1 := []) ?_ (List.nil_sublist _)
  have one : ∀ x ∈ T, atI x.cps.toList 0 = some (x.cps.toList.headD 0) := fun x hm => by
    have := (x8 x (inD x hm)).1
    rw [str_len] at this
    cases hc : x.cps.toList with
    | nil => rw [hc] at this; simp at this
    | cons c r => exact at0
  refine q_asg (w := .val (.str (fsS T))) (join_heads (fun x hx => x8 x (inD x hx)) (by omega) ((evn_map (xs := T) (g := fun x => W.val (.str x)) (f := fun x => D.str ⟨#[x.cps.toList.headD 0]⟩) (C := fun _ => True) (ei_strs (ev_var (i := 6) rfl)) (by decide) (by omega) ⟨trivial, fun _ => trivial⟩ (fun x hm => ev_ixS (ev_var rfl) ev_int (by have := (x8 x (inD x hm)).2; omega) (one x hm))).lst.to (by unfold stD; rw [List.map_map]; rfl)) ev_str) ?_
  have ol : (fsS T).length = T.length := fs_len T
  have rtc : ∀ (x : Str), 1 ≤ x.length → x.length ≤ 4000 → ∀ {ro : Ro} {te : TE}, EvD K te ro [] (.val (.str x)) [] → EvR K (tCall (spC K (ct_law_root K)) [] E (tCons te tNil)) ro [] (fun w k => ∃ d, RtN x d ∧ w = .val (.str (cutS x none (some (d : Int)))) ∧ k = []) := fun x h1 h4 ro te h => EvR.imp (evr_call (k1 := []) [] (ea1 h) ⟨_, rfl, x, rfl, h1, h4, rfl, rfl⟩ (fun o k ⟨_, _, h, _⟩ => ⟨_, h⟩)) fun w k hh => by
    obtain ⟨d, k2, ⟨n, h1, h2, h3⟩, h4, h5⟩ := hh
    cases h2
    exact ⟨n, h1, h4, by rw [h5, h3]; rfl⟩
  refine g_ifR (R := fun b kk => b = false ∧ kk = []) (etR_not (etR_B (evr_callAR (ear_cons (rtc (fsS T) (by omega) (by omega) (ev_var rfl)) (R := fun w us k => ∃ d e, RtN (fsS T) d ∧ RtN t e ∧ w = .val (.str (cutS (fsS T) none (some (d : Int)))) ∧ us = [.val (.str (cutS t none (some (e : Int))))] ∧ k = []) (fun w k ⟨d, h1, h2, h3⟩ => ?second)) (P2 := fun w k => w = .val (.bl true) ∧ k = []) (fun us k hk => ?use)) (fun w k ⟨h1, h2⟩ => ⟨true, h1, rfl, h2⟩))) (fun kk ⟨z, _⟩ => by cases z) (fun kk ⟨_, e⟩ => by subst e; exact g_next (g_jp ⟨_, _, _, rfl, rfl⟩))
  case second =>
    subst h3
    refine EvAR.imp (ear_cons (rtc t tl.1 (by omega) (ev_var rfl)) (R := fun w us k => us = [] ∧ ∃ e, RtN t e ∧ w = .val (.str (cutS t none (some (e : Int)))) ∧ k = []) (fun w k ⟨e, g1, g2, g3⟩ => EvAR.imp (ea_nil (K := K)).toR fun us k' h => ⟨h.1, e, g1, g2, h.2.trans g3⟩)) fun us k ⟨w2, us2, e1, e2, e, g1, g2, g3⟩ => ⟨d, e, h1, g1, h2, by rw [e1, e2, g2], g3⟩
  case use =>
    obtain ⟨w, us', rfl, d, e, h1, h2, rfl, rfl, rfl⟩ := hk
    obtain ⟨eq, hin⟩ := root_same h1 h2 hc
    subst eq
    have l1 := cut_len h1.dn
    have l2 := cut_len h2.dn
    have d1 := h1.dn
    refine ⟨[], [], [], _, List.Perm.refl _, rfl, ⟨_, _, rfl, _, _, rfl, rfl, by omega, by omega, rfl, rfl⟩, fun o k h => ⟨_, h.1⟩, ?_⟩
    rintro d k2 ⟨e1, e2⟩
    cases e1
    exact ⟨by rw [hin, l1, l2, beq_self_eq_true]; rfl, by rw [e2]; rfl⟩
end
def ct_law (K : PySem.W.Frag) : Ct := Ct1 fun a ka out => ∃ ns, Scr K a ns ∧ ka = [] ∧ out = Rt (.bl true) []
theorem abc_cut {t : Int} (h0 : 0 ≤ t) (h1 : t < 3) : 1 ≤ (cutS "abc" none (some (1 + t))).length ∧ (cutS "abc" none (some (1 + t))).length ≤ 3 ∧ ∀ c ∈ (cutS "abc" none (some (1 + t))).cps.toList, c ∈ letL := by
  have : t = 0 ∨ t = 1 ∨ t = 2 := by omega
  rcases this with rfl | rfl | rfl <;> decide
theorem win_twice {t : Str} (h0 : 1 ≤ t.length) (k i : Nat) : winS (t ++ t) k i = winS t k i := by
  apply str_ext
  show winL (t ++ t).cps.toList k i = winL t.cps.toList k i
  have en : EnP t.cps.toList (t.cps.toList ++ t.cps.toList) := enp_app (enp_self _) (Nat.mod_self _)
  have l : (t.cps.toList ++ t.cps.toList).length = t.cps.toList.length * 2 := by rw [List.length_append]; omega
  have p : 0 < t.cps.toList.length := by rw [← str_len]; exact h0
  rw [cpsApp]
  apply List.ext_getElem?
  intro j
  by_cases hj : j < k
  · rw [winL_at hj, winL_at hj, l, List.getD_eq_getElem?_getD, en _ (by rw [l]; exact Nat.mod_lt _ (by omega)), Nat.mod_mul_right_mod]
    rfl
  · rw [List.getElem?_eq_none (by rw [winL_len]; omega), List.getElem?_eq_none (by rw [winL_len]; omega)]
theorem wins_twice {t : Str} (h0 : 1 ≤ t.length) (k : Nat) (x : Str) : x ∈ wins (t ++ t) k ↔ x ∈ wins t k := by
  rw [mem_wins]
  constructor
  · rintro ⟨i, _, rfl⟩
    rw [win_twice h0]
    exact win_mem h0 _ _
  · intro h
    obtain ⟨i, hi, rfl⟩ := mem_wins.mp h
    have e : (t ++ t).length = t.length + t.length := PySem.Str.length_append ..
    exact ⟨i, by omega, win_twice h0 _ _⟩
theorem knD_same {x t : Str} (h : ∀ k y, y ∈ wins x k ↔ y ∈ wins t k) : knD x = knD t := by
  unfold knD knB
  have : ∀ k, inOrd (wins x k) = inOrd (wins t k) := fun k => inOrd_eq (h k)
  simp only [this]
theorem pl_knD (t : Str) : pl 61 (knD t) = true := by
  rcases knD_case t with h | ⟨i, _, _, h⟩ <;> rw [h] <;> rfl
def badsK1 : List D := [.str "", .str "A", .non, .str "a1", .int 7, .str (repS 41 "b")]
theorem at_mem {ds : List D} {i : Int} (h0 : 0 ≤ i) (h1 : i < ds.length) : ∃ d, atI ds i = some d ∧ d ∈ ds := by
  have hl : i.toNat < ds.length := by omega
  exact ⟨ds[i.toNat], atZ h0 (List.getElem?_eq_getElem hl), List.getElem_mem hl⟩
theorem bads_ok1 : ∀ d ∈ badsK1, (nmOk d ∧ isTxD 40 d = false) ∧ pl 61 d = true := by
  intro d hd
  simp only [badsK1, List.mem_cons, List.not_mem_nil, or_false] at hd
  rcases hd with rfl | rfl | rfl | rfl | rfl | rfl
  all_goals refine ⟨⟨by first | decide | (show _ ≠ _; decide) | (show Str.length _ ≤ 1000; decide), by decide⟩, by decide⟩
section
variable {P : Program} {w : World} {K : PySem.W.Frag} {mg : Str → Option Value} {base : Heap}
theorem ok_law {fd : FuncData} (T : Tx K mg) (F_known_by : Fn P w K mg base 10 (He.ga K "known_by") ["text"] (ct_known_by K)) (F_law_cell : Fn P w K mg base 4 (He.ga K "_law_cell") ["_law_script", "_law_k"] (ct_law_cell K)) (F_law_pool : Fn P w K mg base 4 (He.ga K "_law_pool") ["_law_cell_here"] (ct_law_pool K)) (F_law_take : Fn P w K mg base 4 (He.ga K "_law_take") ["_law_pool_here", "_law_many"] (ct_law_take K)) (F_law_text : Fn P w K mg base 6 (He.ga K "_law_text") ["_law_pool_here", "_law_most", "_law_letters"] (ct_law_text K)) (F_law_due : Fn P w K mg base 6 (He.ga K "_law_due") ["_law_text_here"] (ct_law_due K)) (F_law_refused : Fn P w K mg base 12 (He.ga K "_law_refused") ["_law_thing"] (ct_law_refused K)) (F_law_all_alike : Fn P w K mg base 10 (He.ga K "_law_all_alike") ["_law_script", "_law_text_here", "_law_size"] (ct_law_all_alike K)) (F : FunD K "law" "law" (defArgs s_law) (defBody s_law) (defScope s_law) [] [] (He.ga K "law") fd) : FnOk P w K mg base (L2.CX P w) 14 (He.ga K "law") fd ["_law_script"] (spC K (ct_law K)) := by
  refine fn_okF F sc_law (fun _ _ _ _ _ _ us hl => match us, hl with | [_], _ => rfl) ct1_len (fun cdv A outer s H E hr => ⟨_, (pss_cons (ps_for (passes_of rfl) rfl (pi_range1 rfl T.n_range (pa_cons pe_int pa_nil)) (pg_name (i := 1) sc_law.nd rfl (by first | exact Or.inl rfl | exact Or.inr rfl)) (pss_cons (ps_set (i := 2) sc_law.nd rfl (by first | exact Or.inl rfl | exact Or.inr rfl) (pe_call (F_law_pool.up (by decide)).ok hr rfl T.g_law_pool.1 T.g_law_pool.2 (F_law_pool.up (by decide)).bn .nil (pass_own rfl rfl rfl rfl) (pa_cons (pe_op op_addU (pe_call (F_law_cell.up (by decide)).ok hr rfl T.g_law_cell.1 T.g_law_cell.2 (F_law_cell.up (by decide)).bn .nil (pass_own rfl rfl rfl rfl) (pa_cons (pv 0) (pa_cons (pv 1) pa_nil))) (pv 1)) pa_nil)))
      (pss_cons (ps_set (i := 3) sc_law.nd rfl (by first | exact Or.inl rfl | exact Or.inr rfl) (pe_slice sl_U pe_str po_none (po_some (pe_op op_addU pe_int (pe_call (F_law_take.up (by decide)).ok hr rfl T.g_law_take.1 T.g_law_take.2 (F_law_take.up (by decide)).bn .nil (pass_own rfl rfl rfl rfl) (pa_cons (pv 2) (pa_cons pe_int pa_nil)))))))
      (pss_cons (ps_set (i := 4) sc_law.nd rfl (by first | exact Or.inl rfl | exact Or.inr rfl) (pe_call (F_law_text.up (by decide)).ok hr rfl T.g_law_text.1 T.g_law_text.2 (F_law_text.up (by decide)).bn .nil (pass_own rfl rfl rfl rfl) (pa_cons (pv 2) (pa_cons pe_int (pa_cons (pv 3) pa_nil)))))
      (pss_cons (ps_if (pt_cmpR (op_eqP (by have := (hr).units; exact this)) (pv 1) pe_int (nomark _))
      (pss_one (ps_set (i := 4) sc_law.nd rfl (by first | exact Or.inl rfl | exact Or.inr rfl) (pe_join pe_str (pe_lc (te := (tOp (rIx K) (tVar 3) (tCall (spC K (ct_law_take K)) [] (fun _ _ _ => False) (tCons (tVar 2) (tCons (tCB (rLenU K) (tCons (tVar 3) tNil)) tNil))))) (tt := tYes) (own := [("_law_k", 5)]) rfl sc_law.nd (pi_range1 rfl T.n_range (pa_cons (pe_op op_addU pe_int (pe_call (F_law_take.up (by decide)).ok hr rfl T.g_law_take.1 T.g_law_take.2 (F_law_take.up (by decide)).bn .nil (pass_own rfl rfl rfl rfl) (pa_cons (pv 2) (pa_cons pe_int pa_nil)))) pa_nil)) (blk_ok ["_law_script", "_law_turn", "_law_pool_here", "_law_letters", "_law_text_here", "_law_k", "_law_due_here", "_law_place", "_law_one", "_law_bad"] (defScope s_law) rfl rfl (by decide +kernel)) (fun _ _ _ _ _ => (pg_name (i := 5) sc_law.nd rfl (by first | exact Or.inl rfl | exact Or.inr rfl))) (fun _ _ _ _ _ => pts_nil) (fun _ _ _ _ _ => (pe_ix ix_seq (pv 3) (pe_call (F_law_take.up (by decide)).ok hr rfl T.g_law_take.1 T.g_law_take.2 (F_law_take.up (by decide)).bn .nil passes_no (pa_cons (pv 2) (pa_cons (pe_callB call_lenU rfl T.n_len (by decide +kernel) (pa_cons (pv 3) pa_nil)) pa_nil))) fun _ _ => rfl))))))
      pss_nil)
      (pss_cons (ps_set (i := 6) sc_law.nd rfl (by first | exact Or.inl rfl | exact Or.inr rfl) (pe_call (F_law_due.up (by decide)).ok hr rfl T.g_law_due.1 T.g_law_due.2 (F_law_due.up (by decide)).bn .nil (pass_own rfl rfl rfl rfl) (pa_cons (pv 4) pa_nil)))
      (pss_cons (ps_set (i := 7) sc_law.nd rfl (by first | exact Or.inl rfl | exact Or.inr rfl) (pe_call (F_law_take.up (by decide)).ok hr rfl T.g_law_take.1 T.g_law_take.2 (F_law_take.up (by decide)).bn .nil (pass_own rfl rfl rfl rfl) (pa_cons (pv 2) (pa_cons (pe_callB call_lenU rfl T.n_len (by decide +kernel) (pa_cons (pv 4) pa_nil)) pa_nil))))
      (pss_cons (ps_for (passes_of rfl) rfl (pi_seq (pe_tup (pa_cons (pv 4) (pa_cons (pe_op op_addU (pe_slice sl_U (pv 4) (po_some (pv 7)) po_none) (pe_slice sl_U (pv 4) po_none (po_some (pv 7)))) (pa_cons (pe_op op_addU (pv 4) (pv 4)) pa_nil))))) (pg_name (i := 8) sc_law.nd rfl (by first | exact Or.inl rfl | exact Or.inr rfl)) (pss_one (ps_if (PW.pt (pw_and (pt_cmpR op_le (pe_callB call_lenU rfl T.n_len (by decide +kernel) (pa_cons (pv 8) pa_nil)) pe_int (nomark _)) (pw_and1 (pt_cmpR (op_neP (by have := (hr).units; exact this)) (pe_call (F_known_by.up (by decide)).ok hr rfl T.g_known_by.1 T.g_known_by.2 (F_known_by.up (by decide)).bn .nil (pass_own rfl rfl rfl rfl) (pa_cons (pv 8) pa_nil)) (pv 6) (nomark _)))))
      (pss_one (ps_ret pe_bl))
      pss_nil)))
      (pss_cons (ps_if (PW.pt (pw_and (pt_cmpR op_notN1 (pv 6) pe_non (nomark _)) (pw_and1 (pt_not (pt_val (pe_call (F_law_all_alike.up (by decide)).ok hr rfl T.g_law_all_alike.1 T.g_law_all_alike.2 (F_law_all_alike.up (by decide)).bn .nil (pass_own rfl rfl rfl rfl) (pa_cons (pv 0) (pa_cons (pv 4) (pa_cons (pv 6) pa_nil)))))))))
      (pss_one (ps_ret pe_bl))
      pss_nil)
      (pss_cons (ps_set (i := 9) sc_law.nd rfl (by first | exact Or.inl rfl | exact Or.inr rfl) (pe_ix ix_seq (pe_lst (pa_cons pe_str (pa_cons pe_str (pa_cons pe_non (pa_cons pe_str (pa_cons pe_int (pa_cons (pe_op op_mulS pe_str pe_int) pa_nil))))))) (pe_call (F_law_take.up (by decide)).ok hr rfl T.g_law_take.1 T.g_law_take.2 (F_law_take.up (by decide)).bn .nil (pass_own rfl rfl rfl rfl) (pa_cons (pv 2) (pa_cons pe_int pa_nil))) fun _ _ => rfl))
      (pss_one (ps_if (pt_not (pt_val (pe_call (F_law_refused.up (by decide)).ok hr rfl T.g_law_refused.1 T.g_law_refused.2 (F_law_refused.up (by decide)).bn .nil (pass_own rfl rfl rfl rfl) (pa_cons (pv 9) pa_nil))))
      (pss_one (ps_ret pe_bl))
      pss_nil))))))))))))
      (pss_one (ps_ret pe_bl))), fun ws ka out B F0 Q hC hR hX => ?_⟩)
  obtain ⟨s0, rfl, zs, hs0, rfl, rfl⟩ := hC
  refine q_forn (ei_range1 (ea1 ev_int) (by decide) (by decide)) (fun i ro ka => ro.length = 10 ∧ ro[0]? = some (some s0) ∧ ka = []) ⟨rfl, rfl, rfl⟩ (fun i ro ka _ => trivial) (fun i w ro2 ka2 ta' hw ⟨e1, e2, e3⟩ => ?_) (fun ro2 ka2 ta' ⟨e1, e2, e3⟩ _ => by subst e3; exact g_ret hR ev_bl ⟨rfl, rfl⟩)
  subst e3
  have hw2 : w = .val (.int (i : Int)) := by
    rw [List.getElem?_map] at hw
    obtain ⟨j, hj, rfl⟩ := Option.map_eq_some_iff.mp hw
    obtain ⟨h1, h2⟩ := List.getElem?_eq_some_iff.mp hj
    rw [List.getElem_range] at h2
    subst h2
    rfl
  subst hw2
  refine q_turn (n := 8) e1 e2 ?_
  show Gp K B F0 ta' _ [some s0, some (.val (.int (i : Int))), none, none, none, none, none, none, none, none] []
  refine q_asgN (evn_callP (ea1 (ev_addI (ev_callP (ea2 (ev_var rfl) (ev_var rfl)) ⟨_, _, rfl, zs, i, hs0, rfl, rfl, rfl⟩) (ev_var rfl))) ⟨_, rfl, _, rfl, rfl, rfl⟩) (fun a => ?_)
  generalize hq : plOf (zs.getD i 0 + (i : Int)) = q
  have hq0 : q.Ok 0 := hq ▸ plOf_ok _
  have t3 := tk_lt q (m := 3) (by decide)
  have hq1 := tk_ok hq0 (m := 3) (by decide)
  obtain ⟨L1, L3, Lm⟩ := abc_cut t3.1 t3.2
  refine q_asg (ev_slS (s := "abc") ev_str eo_none (eo_some (ev_addI ev_int (ev_take (kr := []) (ev_var rfl) ev_int (hq0.up (by decide)) (by decide) (by decide)))) (by decide)) ?_
  generalize cutS "abc" none (some (1 + (tk q 3).1)) = L at *
  generalize (tk q 3).2 = q1 at *
  refine q_call (kr := []) (k1 := [(a, .lst q1.ds)]) (ea3 (ev_var rfl) ev_int (ev_var rfl)) ⟨_, _, _, rfl, a, q1, 0 + 1, 14, L, rfl, rfl, rfl, rfl, hq1, by decide, by decide, by decide, by decide, L1, Nat.le_trans L3 (by decide), Lm, rfl⟩ (fun o k ⟨ss, p', h, _⟩ => ⟨_, h⟩) ?_
  rintro _ _ ⟨t0, p1, e, rfl, hp1, ht0, _⟩
  cases e
  refine q_meet (fun ro ka => ∃ (t : Str) (p' : Pl), ro = [some s0, some (.val (.int (i : Int))), some (.val (.adr a)), some (.val (.str L)), some (.val (.str t)), none, none, none, none, none] ∧ ka = [(a, .lst p'.ds)] ∧ p'.Ok 200 ∧ isTx 40 t = true) (fun nx k => ?text) (fun ro2 ka2 ⟨t, p2, e1, e2, hp2, ht⟩ => ?_)
  case text =>
    refine g_if (et_test (ev_eqI (ev_var rfl) ev_int)) (fun _ => ?_) (fun _ => g_next (k _ _ ⟨t0, p1, rfl, rfl, hp1.up (by decide), tx_up ht0 (by decide)⟩))
    have t12 := tk_lt p1 (m := 12) (by decide)
    have hp12 := tk_ok hp1 (m := 12) (by decide)
    refine g_asgR (evr_joinR ev_str (EvNR.lstR (evr_lc (ei_range1 (ea1 (ev_addI ev_int (ev_take (kr := []) (ev_var rfl) ev_int (hp1.up (by decide)) (by decide) (by decide)))) (by omega) (by omega)) (by decide) (by rw [List.length_map, List.length_range]; omega) (fun j acc k => ∃ cs p', acc = stD (cs.map fun c : Nat => (⟨#[c]⟩ : Str)) ∧ k = [(a, .lst (Pl.ds p'))] ∧ p'.Ok (100 + j) ∧ cs.length = j ∧ ∀ c ∈ cs, c ∈ letL) ⟨[], _, rfl, rfl, hp12.up (by decide), rfl, fun c h => by cases h⟩ (fun j acc k _ => ⟨trivial, fun _ => trivial⟩) (fun j w acc k hw ⟨cs, p', e1, e2, hp', hl, hc⟩ => ?step)) (fun n k ⟨acc, e, _⟩ => ⟨acc, e⟩)) (fun w k ⟨ds, ⟨acc, e0, cs, p', e1, e2, hp', hl, hc⟩, e3⟩ => ⟨cs.map fun c : Nat => (⟨#[c]⟩ : Str), ?lst, ?sz⟩)) (fun w kk ⟨ss, ⟨ds, ⟨acc, e0, cs, p', e1, e2, hp', hl, hc⟩, e3⟩, e4⟩ => ?use)
    case step =>
      subst e1 e2
      have hj : j < (29 + (tk p1 12).1).toNat := by
        have := (List.getElem?_eq_some_iff.mp hw).1
        rwa [List.length_map, List.length_range] at this
      obtain ⟨z0, c, hcc, hcm⟩ := draw_sign (L := L) (p := p') L1
      refine .inr ⟨_, _, .str ⟨#[c]⟩, et_yes, ev_ixS (s := L) (ev_var rfl) (ev_take (kr := []) (ev_var rfl) (ev_lenS (ev_var rfl) (by omega)) (hp'.up (by omega)) (by omega) (by omega)) (by omega) hcc, cs ++ [c], _, ?_, rfl, (tk_ok hp' (by omega)).up (by push_cast; omega), by rw [List.length_append, hl]; rfl, fun d hd => ?_⟩
      · rw [List.map_append, ← stD_app]
        rfl
      · rcases List.mem_append.mp hd with hd | hd
        · exact hc d hd
        · rw [List.mem_singleton.mp hd]
          exact Lm c hcm
    case lst =>
      cases e0
      rw [e3, e1]
    case sz =>
      rw [List.length_map, List.length_range] at hl
      rw [List.map_map, List.length_map]
      refine Nat.le_trans (Nat.add_le_add (Nat.le_of_eq (sum_one cs)) (Nat.le_refl _)) ?_
      show cs.length + cs.length * 0 ≤ 100000
      omega
    case use =>
      cases e0
      cases e3
      have es : ss = cs.map fun c : Nat => (⟨#[c]⟩ : Str) := by
        have := congrArg wnO.strsOf e1
        rwa [strsOf_stD, strsOf_stD] at this
      subst es e2 e4
      rw [List.length_map, List.length_range] at hl hp'
      rw [join_one]
      refine k _ _ ⟨⟨cs.toArray⟩, p', rfl, rfl, hp'.up (by omega), isTx_iff.mpr ⟨?_, fun c h => hc c h⟩⟩
      have : (⟨cs.toArray⟩ : Str).length = cs.length := str_len _
      omega
  subst e1 e2
  have tl := (isTx_iff.mp ht).1
  refine q_asg (ev_callP (d := knD t) (ea1 (ev_var rfl)) ⟨_, rfl, t, rfl, ht, rfl, rfl⟩) ?_
  have tp := tk_lt p2 (m := (t.length : Int)) (by omega)
  have hp3 := tk_ok hp2 (m := (t.length : Int)) (by omega)
  obtain ⟨pl0, ep, plt⟩ : ∃ p : Nat, (tk p2 (t.length : Int)).1 = (p : Int) ∧ p < t.length := ⟨(tk p2 (t.length : Int)).1.toNat, by omega, by omega⟩
  refine q_asg (w := .val (.int (pl0 : Int))) ((ev_take (kr := []) (ev_var rfl) (ev_lenS (ev_var rfl) (by omega)) (hp2.up (by decide)) (by omega) (by omega)).to (by rw [ep])) ?_
  generalize (tk p2 (t.length : Int)).2 = p3 at *
  have rl : (rotS t pl0).length = t.length := rotS_len (by omega)
  have dl : (t ++ t).length = t.length + t.length := PySem.Str.length_append ..
  have evr : ∀ {ro : Ro} {kk : Cells}, ro[4]? = some (some (.val (.str t))) → ro[7]? = some (some (.val (.int (pl0 : Int)))) → EvD K (tOp (rAddU K) (tSl (rSlU K) (tVar 4) (tPart (tVar 7)) tNoPart) (tSl (rSlU K) (tVar 4) tNoPart (tPart (tVar 7)))) ro kk (.val (.str (rotS t pl0))) kk := fun hh3 hh5 => ev_addS (ev_slS (ev_var hh3) (eo_some (ev_var hh5)) eo_none (by omega)) (ev_slS (ev_var hh3) eo_none (eo_some (ev_var hh5)) (by omega)) (by
    have : (rotS t pl0).length = _ := PySem.Str.length_append ..
    omega)
  have good : ∀ x ∈ [t, rotS t pl0, t ++ t], x.length ≤ 80 ∧ 1 ≤ x.length ∧ (∀ c ∈ x.cps.toList, c ∈ letL) ∧ knD x = knD t := fun x hx => by
    have tc := (isTx_iff.mp ht).2
    simp only [List.mem_cons, List.not_mem_nil, or_false] at hx
    rcases hx with rfl | rfl | rfl
    · exact ⟨by omega, tl.1, tc, rfl⟩
    · refine ⟨by omega, by omega, fun c hc => ?_, knD_same fun k y => wins_rot (by omega) tl.1 k y⟩
      rw [rotS_cps (by omega)] at hc
      rcases List.mem_append.mp hc with hc | hc
      · exact tc c (List.mem_of_mem_drop hc)
      · exact tc c (List.mem_of_mem_take hc)
    · refine ⟨by omega, by omega, fun c hc => ?_, knD_same fun k y => wins_twice tl.1 k y⟩
      rw [cpsApp] at hc
      rcases List.mem_append.mp hc with hc | hc <;> exact tc c hc
  refine q_forn (ei_strsL (t := true) (ss := [t, rotS t pl0, t ++ t]) (ev_tup (ds := [.str t, .str (rotS t pl0), .str (t ++ t)]) (ea3 (ev_var rfl) (evr rfl rfl) (ev_addS (ev_var rfl) (ev_var rfl) (by omega))) (show 3 ≤ 100000 by decide)) .vt) (fun j ro ka => ∃ v8, ro = [some s0, some (.val (.int (i : Int))), some (.val (.adr a)), some (.val (.str L)), some (.val (.str t)), none, some (.val (knD t)), some (.val (.int (pl0 : Int))), v8, none] ∧ ka = [(a, .lst p3.ds)]) ⟨none, rfl, rfl⟩ (fun j ro ka ⟨_, _, e⟩ => by rw [e]; exact Lk.vt.stay) (fun j w ro2 ka2 ta2 hw ⟨v8, e1, e2⟩ => ?_) (fun ro2 ka2 ta2 ⟨v8, e1, e2⟩ hta => ?_)
  · subst e1 e2
    rw [List.getElem?_map] at hw
    obtain ⟨x, hx, rfl⟩ := Option.map_eq_some_iff.mp hw
    obtain ⟨x80, x1, xc, xk⟩ := good x (List.mem_of_getElem? hx)
    refine g_if (b := false) (k1 := [(a, .lst p3.ds)]) ((et_and (et_test (ev_le (ev_lenS (ev_var rfl) (by omega)) ev_int)) (fun h => et_test (ev_ne (d := knD x) (e := knD t) (ev_callP (ea1 (ev_var rfl)) ⟨_, rfl, .str x, rfl, by show x.length ≤ 1000; omega, rfl, (knO_ok (isTx_iff.mpr ⟨⟨x1, ?_⟩, xc⟩)).symm⟩) (ev_var rfl) .v .v (pl_knD x) (pl_knD t)))).to (by rw [xk, eqD_refl 61 _ (pl_knD t), Bool.not_true, Bool.and_false])) (fun z => by cases z) (fun _ => g_next (g_jp ⟨_, rfl, rfl⟩))
    rw [decide_eq_true_eq] at h
    omega
  subst e1 e2
  refine q_when (b := false) (k1 := [(a, .lst p3.ds)]) ?alike (fun z => by cases z) (fun _ => ?_)
  case alike =>
    rcases knD_case t with h | ⟨j, hj, hk, h⟩
    · rw [h]
      exact et_and0 ((et_test (ev_notN (d := .non) (ev_var rfl) (.inl rfl))).to (b := false) rfl)
    · rw [h]
      refine et_and1 ((et_test (ev_notN (d := .int (2 + (j : Int))) (ev_var rfl) (.inl rfl))).to (b := true) rfl) ((et_not (et_B (ev_callP (d := .bl true) (ea3 (ev_var rfl) (ev_var rfl) (ev_var rfl)) ⟨_, _, _, rfl, zs, t, 2 + j, hs0, rfl, by push_cast; rfl, ht, by omega, by omega, hk, rfl, rfl⟩))).to (b := false) rfl)
  have t6 := tk_lt p3 (m := 6) (by decide)
  obtain ⟨bad, ebad, mbad⟩ := at_mem (ds := badsK1) t6.1 t6.2
  obtain ⟨⟨bn, bt⟩, bp⟩ := bads_ok1 bad mbad
  refine q_asg (w := .val bad) (ev_ixV (evn_lst (ds := badsK1) (ea_cons ev_str (ea_cons ev_str (ea_cons ev_non (ea_cons ev_str (ea_cons ev_int (ea1 (ev_mulS (s := "b") (n := 41) ev_str ev_int (by decide) (by decide) (by decide)))))))) (show 6 ≤ 100000 by decide)).lst (ev_take (kr := []) (ev_var rfl) ev_int (hp3.up (by decide)) (by decide) (by decide)) .vl ebad) ?_
  refine Gp.less (k1 := []) ?_ (List.nil_sublist _)
  exact g_if (b := false) (k1 := []) ((et_not (et_B (ev_callP (d := .bl true) (ea1 (ev_var rfl)) ⟨_, rfl, bad, rfl, bn, bt, bp, rfl, rfl⟩))).to rfl) (fun z => by cases z) (fun _ => g_next (g_jpH hta ⟨rfl, rfl, rfl⟩))
end
theorem tx_of {K : PySem.W.Frag} {mg : Str → Option Value} {h : Heap} (X : K.In h) (G : h.Ns mainGlobals mg) (c : SaysY exs dfs K) : Tx K mg where
  v_LETTERS := (let ⟨t, e⟩ := He.str_ok X G (c.fact 0 (f := fStr "LETTERS" "abcdefghijklmnopqrstuvwxyz")); ⟨_, e, t, rfl⟩)
  n_len := He.free_ok X G (c.fact 1 (f := fFree "len"))
  v_LONGEST := (let ⟨t, e⟩ := He.int_ok X G (c.fact 2 (f := fInt "LONGEST" 8)); ⟨_, e, t, rfl⟩)
  n_isinstance := He.free_ok X G (c.fact 3 (f := fFree "isinstance"))
  n_str := He.free_ok X G (c.fact 4 (f := fFree "str"))
  n_all := He.free_ok X G (c.fact 5 (f := fFree "all"))
  v_DIGITS := (let ⟨t, e⟩ := He.str_ok X G (c.fact 6 (f := fStr "DIGITS" "0123456789")); ⟨_, e, t, rfl⟩)
  n_bool := He.free_ok X G (c.fact 7 (f := fFree "bool"))
  n_int := He.free_ok X G (c.fact 8 (f := fFree "int"))
  n_list := He.free_ok X G (c.fact 9 (f := fFree "list"))
  t0_Net___init := t0_ok (c.fact 10 (f := fT0 ("Net", some "__init__") 0))
  n_tuple := He.free_ok X G (c.fact 11 (f := fFree "tuple"))
  g_is_name := ⟨He.glo_ok X G (He.ba (c.fact 12 (f := fGlo "is_name"))).1, (He.ba (c.fact 12 (f := fGlo "is_name"))).2⟩
  g_BadName := ⟨He.glo_ok X G (He.ba (c.fact 13 (f := fGlo "BadName"))).1, (He.ba (c.fact 13 (f := fGlo "BadName"))).2⟩
  g_NameTaken := ⟨He.glo_ok X G (He.ba (c.fact 14 (f := fGlo "NameTaken"))).1, (He.ba (c.fact 14 (f := fGlo "NameTaken"))).2⟩
  g_NoPost := ⟨He.glo_ok X G (He.ba (c.fact 15 (f := fGlo "NoPost"))).1, (He.ba (c.fact 15 (f := fGlo "NoPost"))).2⟩
  n_range := He.free_ok X G (c.fact 16 (f := fFree "range"))
  g_is_text := ⟨He.glo_ok X G (He.ba (c.fact 17 (f := fGlo "is_text"))).1, (He.ba (c.fact 17 (f := fGlo "is_text"))).2⟩
  g_BadWord := ⟨He.glo_ok X G (He.ba (c.fact 18 (f := fGlo "BadWord"))).1, (He.ba (c.fact 18 (f := fGlo "BadWord"))).2⟩
  g_is_whole := ⟨He.glo_ok X G (He.ba (c.fact 19 (f := fGlo "is_whole"))).1, (He.ba (c.fact 19 (f := fGlo "is_whole"))).2⟩
  g_BadNumber := ⟨He.glo_ok X G (He.ba (c.fact 20 (f := fGlo "BadNumber"))).1, (He.ba (c.fact 20 (f := fGlo "BadNumber"))).2⟩
  g_windows_in_turn := ⟨He.glo_ok X G (He.ba (c.fact 21 (f := fGlo "windows_in_turn"))).1, (He.ba (c.fact 21 (f := fGlo "windows_in_turn"))).2⟩
  n_sorted := He.free_ok X G (c.fact 22 (f := fFree "sorted"))
  n_set := He.free_ok X G (c.fact 23 (f := fFree "set"))
  g_checked_windows := ⟨He.glo_ok X G (He.ba (c.fact 24 (f := fGlo "checked_windows"))).1, (He.ba (c.fact 24 (f := fGlo "checked_windows"))).2⟩
  x0_EmptyWalk := He.exc_ok (c.fact 25 (f := fX0 "EmptyWalk"))
  g_EmptyWalk := ⟨He.glo_ok X G (He.ba (c.fact 26 (f := fGlo "EmptyWalk"))).1, (He.ba (c.fact 26 (f := fGlo "EmptyWalk"))).2⟩
  mk_Net := He.mkr_ok (c.fact 27 (f := fMkr "Net"))
  g_Net := ⟨He.glo_ok X G (He.ba (c.fact 28 (f := fGlo "Net"))).1, (He.ba (c.fact 28 (f := fGlo "Net"))).2⟩
  cl_Net := He.cls_ok (c.fact 29 (f := fCls "Net"))
  me_Net_post := He.meth_ok (c.fact 30 (f := fMeth "Net" "post"))
  me_Net_lane := He.meth_ok (c.fact 31 (f := fMeth "Net" "lane"))
  g_window_net := ⟨He.glo_ok X G (He.ba (c.fact 32 (f := fGlo "window_net"))).1, (He.ba (c.fact 32 (f := fGlo "window_net"))).2⟩
  g_windows := ⟨He.glo_ok X G (He.ba (c.fact 33 (f := fGlo "windows"))).1, (He.ba (c.fact 33 (f := fGlo "windows"))).2⟩
  pr_Net_posts := prop_ok (c.fact 34 (f := fProp "Net" "posts"))
  pr_Net_lanes := prop_ok (c.fact 35 (f := fProp "Net" "lanes"))
  g_law_take := ⟨He.glo_ok X G (He.ba (c.fact 36 (f := fGlo "_law_take"))).1, (He.ba (c.fact 36 (f := fGlo "_law_take"))).2⟩
  g_law_ends := ⟨He.glo_ok X G (He.ba (c.fact 37 (f := fGlo "_law_ends"))).1, (He.ba (c.fact 37 (f := fGlo "_law_ends"))).2⟩
  g_law_mixed := ⟨He.glo_ok X G (He.ba (c.fact 38 (f := fGlo "_law_mixed"))).1, (He.ba (c.fact 38 (f := fGlo "_law_mixed"))).2⟩
  g_law_ways := ⟨He.glo_ok X G (He.ba (c.fact 39 (f := fGlo "_law_ways"))).1, (He.ba (c.fact 39 (f := fGlo "_law_ways"))).2⟩
  g_law_window_net := ⟨He.glo_ok X G (He.ba (c.fact 40 (f := fGlo "_law_window_net"))).1, (He.ba (c.fact 40 (f := fGlo "_law_window_net"))).2⟩
  g_law_windows := ⟨He.glo_ok X G (He.ba (c.fact 41 (f := fGlo "_law_windows"))).1, (He.ba (c.fact 41 (f := fGlo "_law_windows"))).2⟩
  g_known_by := ⟨He.glo_ok X G (He.ba (c.fact 42 (f := fGlo "known_by"))).1, (He.ba (c.fact 42 (f := fGlo "known_by"))).2⟩
  xc_BadWord := xcB_ok (c.fact 43 (f := fXc "BadWord"))
  xn_BadWord_word := He.noat_ok (c.fact 44 (f := fNoat "BadWord" "word"))
  g_law_hidden := ⟨He.glo_ok X G (He.ba (c.fact 45 (f := fGlo "_law_hidden"))).1, (He.ba (c.fact 45 (f := fGlo "_law_hidden"))).2⟩
  g_law_pool := ⟨He.glo_ok X G (He.ba (c.fact 46 (f := fGlo "_law_pool"))).1, (He.ba (c.fact 46 (f := fGlo "_law_pool"))).2⟩
  g_law_cell := ⟨He.glo_ok X G (He.ba (c.fact 47 (f := fGlo "_law_cell"))).1, (He.ba (c.fact 47 (f := fGlo "_law_cell"))).2⟩
  g_law_same_ring := ⟨He.glo_ok X G (He.ba (c.fact 48 (f := fGlo "_law_same_ring"))).1, (He.ba (c.fact 48 (f := fGlo "_law_same_ring"))).2⟩
  g_law_root := ⟨He.glo_ok X G (He.ba (c.fact 49 (f := fGlo "_law_root"))).1, (He.ba (c.fact 49 (f := fGlo "_law_root"))).2⟩
  g_law_text := ⟨He.glo_ok X G (He.ba (c.fact 50 (f := fGlo "_law_text"))).1, (He.ba (c.fact 50 (f := fGlo "_law_text"))).2⟩
  g_law_due := ⟨He.glo_ok X G (He.ba (c.fact 51 (f := fGlo "_law_due"))).1, (He.ba (c.fact 51 (f := fGlo "_law_due"))).2⟩
  g_law_all_alike := ⟨He.glo_ok X G (He.ba (c.fact 52 (f := fGlo "_law_all_alike"))).1, (He.ba (c.fact 52 (f := fGlo "_law_all_alike"))).2⟩
  g_law_refused := ⟨He.glo_ok X G (He.ba (c.fact 53 (f := fGlo "_law_refused"))).1, (He.ba (c.fact 53 (f := fGlo "_law_refused"))).2⟩
  xc_BadName := xcB_ok (c.fact 54 (f := fXc "BadName"))
  xi_BadName := xi_ok (c.fact 55 (f := fXi "BadName"))
  xn_BadName_name := He.noat_ok (c.fact 56 (f := fNoat "BadName" "name"))
  xc_NameTaken := xcB_ok (c.fact 57 (f := fXc "NameTaken"))
  xi_NameTaken := xi_ok (c.fact 58 (f := fXi "NameTaken"))
  xn_NameTaken_name := He.noat_ok (c.fact 59 (f := fNoat "NameTaken" "name"))
  xc_NoPost := xcB_ok (c.fact 60 (f := fXc "NoPost"))
  xi_NoPost := xi_ok (c.fact 61 (f := fXi "NoPost"))
  xn_NoPost_name := He.noat_ok (c.fact 62 (f := fNoat "NoPost" "name"))
  xc_BadNumber := xcB_ok (c.fact 63 (f := fXc "BadNumber"))
  xi_BadNumber := xi_ok (c.fact 64 (f := fXi "BadNumber"))
  xn_BadNumber_value := He.noat_ok (c.fact 65 (f := fNoat "BadNumber" "value"))
  xi_BadWord := xi_ok (c.fact 66 (f := fXi "BadWord"))
  g_law := ⟨He.glo_ok X G (He.ba (c.fact 67 (f := fGlo "law"))).1, (He.ba (c.fact 67 (f := fGlo "law"))).2⟩
  kt_NoneType_str := kit_ok (c.fact 68 (f := fKit "NoneType" "str" false))
  kt_bool_str := kit_ok (c.fact 69 (f := fKit "bool" "str" false))
  kt_int_str := kit_ok (c.fact 70 (f := fKit "int" "str" false))
  kt_list_str := kit_ok (c.fact 71 (f := fKit "list" "str" false))
  kt_tuple_str := kit_ok (c.fact 72 (f := fKit "tuple" "str" false))
  kt_str_str := kit_ok (c.fact 73 (f := fKit "str" "str" true))
  kt_NoneType_int := kit_ok (c.fact 74 (f := fKit "NoneType" "int" false))
  kt_str_int := kit_ok (c.fact 75 (f := fKit "str" "int" false))
  kt_list_int := kit_ok (c.fact 76 (f := fKit "list" "int" false))
  kt_tuple_int := kit_ok (c.fact 77 (f := fKit "tuple" "int" false))
  kt_int_int := kit_ok (c.fact 78 (f := fKit "int" "int" true))
  kt_int_bool := kit_ok (c.fact 79 (f := fKit "int" "bool" false))
  kt_bool_int := kit_ok (c.fact 80 (f := fKit "bool" "int" true))
  kt_bool_bool := kit_ok (c.fact 81 (f := fKit "bool" "bool" true))
  na_Net_order := He.noat_ok (c.fact 82 (f := fNoat "Net" "order"))
  na_Net_ends_by_lane := He.noat_ok (c.fact 83 (f := fNoat "Net" "ends_by_lane"))
  ex_BadWord_BadWord := He.exm_ok (c.fact 84 (f := fExm "BadWord" "BadWord" true))
  d_is_name := c.def_ 0
  d_is_whole := c.def_ 1
  d_Net___init := c.def_ 2
  d_Net_posts := c.def_ 3
  d_Net_lanes := c.def_ 4
  d_Net_post := c.def_ 5
  d_Net_lane := c.def_ 6
  d_is_text := c.def_ 7
  d_windows_in_turn := c.def_ 8
  d_checked_windows := c.def_ 9
  d_windows := c.def_ 10
  d_window_net := c.def_ 11
  d_known_by := c.def_ 12
  d_law_cell := c.def_ 13
  d_law_pool := c.def_ 14
  d_law_take := c.def_ 15
  d_law_mixed := c.def_ 16
  d_law_ends := c.def_ 17
  d_law_ways := c.def_ 18
  d_law_hidden := c.def_ 19
  d_law_windows := c.def_ 20
  d_law_text := c.def_ 21
  d_law_window_net := c.def_ 22
  d_law_root := c.def_ 23
  d_law_same_ring := c.def_ 24
  d_law_due := c.def_ 25
  d_law_refused := c.def_ 26
  d_law_all_alike := c.def_ 27
  d_law := c.def_ 28
  d_BadName___init := c.def_ 29
  d_NameTaken___init := c.def_ 30
  d_NoPost___init := c.def_ 31
  d_BadNumber___init := c.def_ 32
  d_BadWord___init := c.def_ 33
section
variable {P : Program} {w : World} {K : PySem.W.Frag} {mg : Str → Option Value} {base : Heap}
theorem z_BadName (T : Tx K mg) : Xn P w K mg base (He.ga K "BadName") "name" := by
  obtain ⟨fd, F⟩ := T.d_BadName___init
  exact ⟨T.xc_BadName, T.xn_BadName_name, _, fd, "name", T.xi_BadName.1, T.xi_BadName.2, init1_ok F sc_BadName___init (fun cdv A outer s H E => pss_one (ps_ost (pv 0) (pv 1))), F.bindsN (fun _ _ _ _ _ _ us hl => match us, hl with | [_, _], _ => rfl)⟩
theorem z_NameTaken (T : Tx K mg) : Xn P w K mg base (He.ga K "NameTaken") "name" := by
  obtain ⟨fd, F⟩ := T.d_NameTaken___init
  exact ⟨T.xc_NameTaken, T.xn_NameTaken_name, _, fd, "name", T.xi_NameTaken.1, T.xi_NameTaken.2, init1_ok F sc_NameTaken___init (fun cdv A outer s H E => pss_one (ps_ost (pv 0) (pv 1))), F.bindsN (fun _ _ _ _ _ _ us hl => match us, hl with | [_, _], _ => rfl)⟩
theorem z_NoPost (T : Tx K mg) : Xn P w K mg base (He.ga K "NoPost") "name" := by
  obtain ⟨fd, F⟩ := T.d_NoPost___init
  exact ⟨T.xc_NoPost, T.xn_NoPost_name, _, fd, "name", T.xi_NoPost.1, T.xi_NoPost.2, init1_ok F sc_NoPost___init (fun cdv A outer s H E => pss_one (ps_ost (pv 0) (pv 1))), F.bindsN (fun _ _ _ _ _ _ us hl => match us, hl with | [_, _], _ => rfl)⟩
theorem z_BadNumber (T : Tx K mg) : Xn P w K mg base (He.ga K "BadNumber") "value" := by
  obtain ⟨fd, F⟩ := T.d_BadNumber___init
  exact ⟨T.xc_BadNumber, T.xn_BadNumber_value, _, fd, "value", T.xi_BadNumber.1, T.xi_BadNumber.2, init1_ok F sc_BadNumber___init (fun cdv A outer s H E => pss_one (ps_ost (pv 0) (pv 1))), F.bindsN (fun _ _ _ _ _ _ us hl => match us, hl with | [_, _], _ => rfl)⟩
theorem z_BadWord (T : Tx K mg) : Xn P w K mg base (He.ga K "BadWord") "word" := by
  obtain ⟨fd, F⟩ := T.d_BadWord___init
  exact ⟨T.xc_BadWord, T.xn_BadWord_word, _, fd, "word", T.xi_BadWord.1, T.xi_BadWord.2, init1_ok F sc_BadWord___init (fun cdv A outer s H E => pss_one (ps_ost (pv 0) (pv 1))), F.bindsN (fun _ _ _ _ _ _ us hl => match us, hl with | [_, _], _ => rfl)⟩
theorem all_ok {fd : FuncData} (T : Tx K mg) (F : FunD K "law" "law" (defArgs s_law) (defBody s_law) (defScope s_law) [] [] (He.ga K "law") fd) : FnOk P w K mg base (L2.CX P w) 14 (He.ga K "law") fd ["_law_script"] (spC K (ct_law K)) := by
  have Z_BadName : Xn P w K mg base (He.ga K "BadName") "name" := z_BadName T
  have Z_NameTaken : Xn P w K mg base (He.ga K "NameTaken") "name" := z_NameTaken T
  have Z_NoPost : Xn P w K mg base (He.ga K "NoPost") "name" := z_NoPost T
  have Z_BadNumber : Xn P w K mg base (He.ga K "BadNumber") "value" := z_BadNumber T
  have Z_BadWord : Xn P w K mg base (He.ga K "BadWord") "word" := z_BadWord T
  have F_is_name : Fn P w K mg base 4 (He.ga K "is_name") ["word"] (ct_is_name K) := ok_is_name T
  have F_is_whole : Fn P w K mg base 4 (He.ga K "is_whole") ["value"] (ct_is_whole K) := ok_is_whole T
  have F_Net___init : FnE P w K mg base 4 (He.ma K (He.ga K "Net") "__init__") ["self", "order", "ends_by_lane"] [.ref (He.dflAt ("Net", some "__init__") 0 K), .non] (ct_Net___init K) := ok_Net___init T
  have F_Net_posts : Fn P w K mg base 4 (pga K (He.ga K "Net") "posts") ["self"] (ct_Net_posts K) := ok_Net_posts T
  have F_Net_lanes : Fn P w K mg base 4 (pga K (He.ga K "Net") "lanes") ["self"] (ct_Net_lanes K) := ok_Net_lanes T
  have F_Net_post : Fn P w K mg base 6 (He.ma K (He.ga K "Net") "post") ["self", "name"] (ct_Net_post K) := ok_Net_post T F_is_name Z_BadName Z_NameTaken
  have F_Net_lane : Fn P w K mg base 6 (He.ma K (He.ga K "Net") "lane") ["self", "name", "start", "end"] (ct_Net_lane K) := ok_Net_lane T F_is_name Z_BadName Z_NameTaken Z_NoPost
  have F_is_text : Fn P w K mg base 4 (He.ga K "is_text") ["text", "most"] (ct_is_text K) := ok_is_text T
  have F_windows_in_turn : Fn P w K mg base 4 (He.ga K "windows_in_turn") ["text", "size"] (ct_windows_in_turn K) := ok_windows_in_turn T
  have F_checked_windows : Fn P w K mg base 6 (He.ga K "checked_windows") ["text", "size"] (ct_checked_windows K) := ok_checked_windows T F_is_whole F_is_text F_windows_in_turn Z_BadNumber Z_BadWord
  have F_windows : Fn P w K mg base 8 (He.ga K "windows") ["text", "k"] (ct_windows K) := ok_windows T F_checked_windows
  have F_window_net : Fn P w K mg base 8 (He.ga K "window_net") ["words"] (ct_window_net K) := ok_window_net T F_Net___init F_Net_post F_Net_lane F_is_text Z_BadWord
  have F_known_by : Fn P w K mg base 10 (He.ga K "known_by") ["text"] (ct_known_by K) := ok_known_by T F_Net_posts F_Net_lanes F_is_text F_windows F_window_net Z_BadWord
  have F_law_cell : Fn P w K mg base 4 (He.ga K "_law_cell") ["_law_script", "_law_k"] (ct_law_cell K) := ok_law_cell T
  have F_law_pool : Fn P w K mg base 4 (He.ga K "_law_pool") ["_law_cell_here"] (ct_law_pool K) := ok_law_pool T
  have F_law_take : Fn P w K mg base 4 (He.ga K "_law_take") ["_law_pool_here", "_law_many"] (ct_law_take K) := ok_law_take T
  have F_law_mixed : Fn P w K mg base 6 (He.ga K "_law_mixed") ["_law_pool_here", "_law_things"] (ct_law_mixed K) := ok_law_mixed T F_law_take
  have F_law_ends : Fn P w K mg base 4 (He.ga K "_law_ends") ["_law_parts"] (ct_law_ends K) := ok_law_ends T
  have F_law_ways : Fn P w K mg base 4 (He.ga K "_law_ways") ["_law_parts", "_law_start"] (ct_law_ways K) := ok_law_ways T
  have F_law_hidden : Fn P w K mg base 8 (He.ga K "_law_hidden") ["_law_pool_here", "_law_parts", "_law_part", "_law_wanted"] (ct_law_hidden K) := ok_law_hidden T F_law_take F_law_mixed F_law_ends F_law_ways
  have F_law_windows : Fn P w K mg base 4 (He.ga K "_law_windows") ["_law_text_here", "_law_size"] (ct_law_windows K) := ok_law_windows T
  have F_law_text : Fn P w K mg base 6 (He.ga K "_law_text") ["_law_pool_here", "_law_most", "_law_letters"] (ct_law_text K) := ok_law_text T F_law_take
  have F_law_window_net : Fn P w K mg base 4 (He.ga K "_law_window_net") ["_law_words"] (ct_law_window_net K) := ok_law_window_net T
  have F_law_root : Fn P w K mg base 4 (He.ga K "_law_root") ["_law_text_here"] (ct_law_root K) := ok_law_root T
  have F_law_same_ring : Fn P w K mg base 4 (He.ga K "_law_same_ring") ["_law_one", "_law_two"] (ct_law_same_ring K) := ok_law_same_ring T
  have F_law_due : Fn P w K mg base 6 (He.ga K "_law_due") ["_law_text_here"] (ct_law_due K) := ok_law_due T F_law_windows F_law_window_net
  have F_law_refused : Fn P w K mg base 12 (He.ga K "_law_refused") ["_law_thing"] (ct_law_refused K) := ok_law_refused T F_known_by
  have F_law_all_alike : Fn P w K mg base 10 (He.ga K "_law_all_alike") ["_law_script", "_law_text_here", "_law_size"] (ct_law_all_alike K) := ok_law_all_alike T F_law_cell F_law_pool F_law_hidden F_law_windows F_law_window_net F_law_root F_law_same_ring
  exact ok_law T F_known_by F_law_cell F_law_pool F_law_take F_law_text F_law_due F_law_refused F_law_all_alike F
end
end K61
open PySem PySem.W PySem.Calls PyProof.Rows
theorem PySem.Challenge.cw_alsoshown_k61_known_by_windows_holds : PySem.Challenge.rw_alsoshown_k61_known_by_windows.Holds := by
  w_on; o_law
  refine HandSHeadRun.head_any (r := K61.R) (q := K61.qv) (H := K61.hk) (ob := K61.ob) (M := 14000) (loose := K61.names) (d := HandSHeadRun.topDef K61.R.prog 45) (kwd := []) K61.ob_eq
    (by kernel_rfl) (fun s => by kernel_rfl) K61.run (by kernel_rfl) (by kernel_rfl) (by kernel_rfl) (by rfl) (by first | assumption | decide +kernel) (by decide +kernel) ⟨rfl, rfl, rfl, rfl, rfl, by decide +kernel⟩ ?hw ?hc
  case hw => w_witness2
  case hc =>
    refine DL.walk_D (l := PySem.Challenge.rw_alsoshown_k61_known_by_windows) (n := 63) (k := 14) (x := "_law_script") rfl (by decide) (by kernel_rfl) ⟨rfl, by decide, by decide⟩ ?F
    intro w mg fa h Y G hmg0
    obtain ⟨K, KX, c⟩ := Y
    have hmg : mg ("law" : PySem.Str) = some (.ref fa) := by
      have e : (HandSHeadRun.topDef K61.R.prog 45).name = ("law" : PySem.Str) := by kernel_rfl
      rw [← e]
      exact hmg0
    have T := K61.tx_of KX G c
    obtain ⟨fd, F⟩ := T.d_law
    have e := hmg.symm.trans T.g_law.1
    cases e
    exact ⟨K, K61.ct_law K, fd, KX, fun z ns hs => ⟨z, rfl, ns, hs, rfl, rfl⟩, fun s v => L2.FunD.bindsA (ps := ["_law_script"]) F (fun _ _ _ _ _ _ us hl => match us, hl with | [_], _ => rfl) s [v] rfl, fun base => K61.all_ok T F⟩


