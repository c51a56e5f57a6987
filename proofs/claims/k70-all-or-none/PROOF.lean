import PyProof.Rows.All
import Wide.All
import OpenK.AllK
import Wide.FinOn
import HandS.Base
import HandS.Call
import HandS.List
import HandS.Comp
import HandS.Dict
import HandS.Iter
import HandS.Text
import HandS.Evl
import HandS.TupAny
import KE.KeyNested
import HandS.Wide
import HandS.Steps
import HandS.Exc
import HandS.Words
import HandS.WordsExc
import PyProof.NeData
import HandS.OwnEq
import HandS.Property
import HandS.IsInst
import HandS.ExcInit
import HandS.Defaults
import KE.KOpsOwn
import PyProof.InstNe
import HandS.Head0
import HandS.ExcField
import HandS.ExcOwn
import HandS.Codes
import HandS.Conv
import HandS.Style
import KE.KStateDown
import HandS.Head1
import HandS.Head2
import HandS.HeadEnd
import HandS.HeadHook1
import HandS.HeadHook2
import HandS.EndBits
import HandS.TupMul
import KE.DataCmp
import KE.DatumOrd
import HandS.DictComp
import HandS.RaiseMore
import KE.DataEq
import HandS.Finally
import KE.GoesNew
import KE.GoesMore
import OpenK.KMeth
import HandS.Small
import HandS.TupSets
import HandS.Star
import PyProof.Rows.TupDisplay
import KE.KDictCopyH
import PyProof.FactsAll.dict_2
import KE.GoesDict
import HandS.SetKeys
import HandS.GenCall
import HandS.GenList
import HandS.TryOnly
import PySem.Challenge.RW_alsoshown_k70_all_or_none
set_option Elab.async false
set_option linter.all false
set_option maxRecDepth 100000
set_option maxHeartbeats 4000000
namespace DL
open PySem L2 PySem.W
def lineOk (C : Addr) (cd : ClassData) : Bool := !cd.hasDel && (cd.hasDict && (match cd.mro with
  | x :: r => x == .ref C && PySem.HandSPX.refsVE r
  | [] => false))
def slotsOk (sl : Array (Option Value)) : Bool := sl.size == 6 && sl[4]? == some (some (.builtin "ValueError.__new__"))
def errObj (C : Addr) (o : Obj) : Bool := o.cls == .type "type" && (slotsOk o.slots && (match o.data with
  | .cls cd => lineOk C cd
  | _ => false))
def oexB (K : PySem.W.Frag) (C : Addr) : Bool := (K.lookup C).any (errObj C) && (decide (findIn K (.ref C) "__setattr__" = some (some (.builtin "object.__setattr__"))) && (decide (subIn K (.ref C) (.type "BaseException") = some true) && (decide (typeIn K (.ref C) = some (.type "type")) && keepIn K (.ref C))))
def xcB (K : PySem.W.Frag) (C : Addr) : Bool := oexB K C && xfB K C
def EqT (K : PySem.W.Frag) (C : Addr) : Prop := ∀ T ∈ ["NoneType", "bool", "int", "str", "list", "tuple"], subIn K (.type T) (.ref C) = some false
structure ClsI (K : PySem.W.Frag) (C : Addr) : Prop where
  cl : Cls K C
  ha : findIn K (.ref C) "__class__" = some (some (.builtin "object.__class__"))
  hn : specialIn K (.builtin "object.__class__") "__get__" = some (some (.builtin "getset_descriptor.__get__"))
  htk : takesIn K (.builtin "object.__class__") = some true
  hm : mroIn K C (.type "object") = some true
structure Sm (K : PySem.W.Frag) (C : Addr) (m : Str) (f : Addr) : Prop where
  at_ : findIn K (.ref C) m = some (some (.ref f))
  fn : isFn K (.ref f) = true
structure Bo (K : PySem.W.Frag) (C : Addr) (op : Operator) (f : Addr) : Prop where
  first : selfFirst K C = true
  sm : Sm K C (PySem.dunder op.info.2) f
  refl : findIn K (.ref C) (dunderR op.info.2) = some none
structure BoT (K : PySem.W.Frag) (C : Addr) (op : Operator) (T : String) : Prop where
  l : ∃ fo, findIn K (.type T) (PySem.dunder op.info.2) = some fo
  r : ∃ ro, findIn K (.type T) (dunderR op.info.2) = some ro
  sub : subIn K (.type T) (.ref C) = some false
end DL
/-! DK: what the head tells of a text's defs and classes (own work). -/
namespace DL
open PySem L2 PySem.W

/-- the getter of the property m of the class at C -/
def pga (K : PySem.W.Frag) (C : Addr) (m : Str) : Addr := match recIn K (He.ma K C m) "property" with
  | some (.ref g :: _) => g
  | _ => 0
/-! the picture of a def: all that the text fixes of it -/
structure Pic where
  nm : Str
  qn : Str
  pars : Arguments
  code : FuncBody
  sco : Scope
  env : Addr × Addr
  clo : List (Str × Addr)
def picOf (f : FuncData) : Pic := ⟨f.name, f.qualname, f.params, f.body, f.scope, (f.globals, f.builtins), f.closure⟩
def asFn : Data → Option FuncData
  | .func f => some f
  | _ => none
def fnAt (K : PySem.W.Frag) (a : Addr) : Option FuncData := (K.lookup a).bind fun o => asFn o.data
theorem asFn_some {dt : Data} {f : FuncData} (h : asFn dt = some f) : dt = .func f := by
  cases dt <;> first | (cases h; rfl) | cases h
theorem fnAt_some {K : PySem.W.Frag} {a : Addr} {f : FuncData} (h : fnAt K a = some f) : ∃ o, K.lookup a = some o ∧ o.data = .func f := by
  obtain ⟨o, h1, h2⟩ := Option.bind_eq_some_iff.mp h
  exact ⟨o, h1, asFn_some h2⟩
/-- a def of the text: where it stands, its picture, its defaults -/
structure Df where
  at_ : PySem.W.Frag → Addr
  name : Str
  qual : Str
  params : Arguments
  body : List Stmt
  scope : Scope
  dfs : PySem.W.Frag → List V
def Df.pic (d : Df) : Pic := ⟨d.name, d.qual, d.params, .stmts d.body, d.scope, (mainGlobals, builtinsNs), []⟩
def Df.good (K : PySem.W.Frag) (d : Df) : Bool := keepIn K (.ref (d.at_ K)) && (fnAt K (d.at_ K)).any fun f => codeIn K f.code d.qual && (He.dflB K f.defaults (d.dfs K) && He.kwdB K f.kwdefaults [])
theorem Df.known {K : PySem.W.Frag} {d : Df} (e : (fnAt K (d.at_ K)).map picOf = some d.pic) (c : d.good K = true) : ∃ fd, FunD K d.name d.qual d.params d.body d.scope (d.dfs K) [] (d.at_ K) fd := by
  have c' := Bool.and_eq_true_iff.mp c
  cases hf : fnAt K (d.at_ K) with
  | none =>
    rw [hf] at e
    cases e
  | some f =>
    rw [hf] at e c'
    have c2 : (codeIn K f.code d.qual && (He.dflB K f.defaults (d.dfs K) && He.kwdB K f.kwdefaults [])) = true := c'.2
    have c3 := Bool.and_eq_true_iff.mp c2
    have c4 := Bool.and_eq_true_iff.mp c3.2
    obtain ⟨o, lk, hd⟩ := fnAt_some hf
    have same : f = PySem.W.fnOf d.name d.qual d.params d.body d.scope f.defaults f.kwdefaults f.doc f.pyModule f.annotations f.code f.closureTuple := by
      have e1 : picOf f = d.pic := Option.some.inj e
      have n := congrArg Pic.nm e1
      have qn := congrArg Pic.qn e1
      have ps := congrArg Pic.pars e1
      have bd := congrArg Pic.code e1
      have sc := congrArg Pic.sco e1
      have ev := congrArg Pic.env e1
      have cl := congrArg Pic.clo e1
      have g := congrArg Prod.fst ev
      have bt := congrArg Prod.snd ev
      cases f
      cases n; cases qn; cases ps; cases bd; cases sc; cases cl; cases g; cases bt
      rfl
    have lk2 : K.lookup (d.at_ K) = some ⟨o.cls, o.dict, .func f, o.slots⟩ := by
      rw [lk, ← hd]
    exact ⟨f, ⟨o.cls, o.dict, f.defaults, f.kwdefaults, f.doc, f.pyModule, f.annotations, f.code, f.closureTuple, o.slots, same, lk2, c3.1, He.dflB_ok c4.1, He.kwdB_ok c4.2⟩, c'.1⟩
abbrev Fx := PySem.W.Frag → Bool
/-- all facts and all defs of a text, looked at in one heap -/
abbrev AlY : Type := Bool × List (Option Pic)
def lookY (ex : List Fx) (fn : List Df) (K : PySem.W.Frag) : AlY := (ex.all (· K) && fn.all (Df.good K), fn.map fun d => (fnAt K (d.at_ K)).map picOf)
def dueY (fn : List Df) : AlY := (true, fn.map fun d => some d.pic)
def SaysY (ex : List Fx) (fn : List Df) (K : PySem.W.Frag) : Prop := lookY ex fn K = dueY fn
section
variable {ex : List Fx} {fn : List Df} {K : PySem.W.Frag}
theorem SaysY.both (c : SaysY ex fn K) : (∀ f ∈ ex, f K = true) ∧ ∀ d ∈ fn, Df.good K d = true := by
  have c1 : (ex.all (· K) && fn.all (Df.good K)) = true := congrArg Prod.fst c
  rw [Bool.and_eq_true, List.all_eq_true, List.all_eq_true] at c1
  exact c1
theorem SaysY.fact (c : SaysY ex fn K) (i : Nat) {f : Fx} (h : ex[i]? = some f := by rfl) : f K = true := c.both.1 f (List.mem_of_getElem? h)
theorem SaysY.def_ (c : SaysY ex fn K) (i : Nat) {d : Df} (h : fn[i]? = some d := by rfl) : ∃ fd, FunD K d.name d.qual d.params d.body d.scope (d.dfs K) [] (d.at_ K) fd := by
  refine Df.known ?_ (c.both.2 d (List.mem_of_getElem? h))
  have e := congrArg (fun z : AlY => z.2[i]?) c
  simp only [lookY, dueY, List.getElem?_map, h, Option.map_some, Option.some.injEq] at e
  exact e
end
/-! ### the facts, by Bool -/
section
variable {K : PySem.W.Frag} {C : Addr}
def fGlo (x : Str) : Fx := fun K => (He.Fa.glo x).ok K && keepIn K (.ref (He.ga K x))
def fFree (x : Str) : Fx := fun K => (He.Fa.free x).ok K
def fStr (x z : Str) : Fx := fun K => (He.Fa.str x z).ok K
def fInt (x : Str) (i : Int) : Fx := fun K => (He.Fa.int x i).ok K
def fCls (x : Str) : Fx := fun K => (He.Fa.cls x).ok K
def fMkr (x : Str) : Fx := fun K => (He.Fa.mkr x).ok K
def fNoat (x f : Str) : Fx := fun K => (He.Fa.noat x f).ok K
def fMeth (x m : Str) : Fx := fun K => (He.Fa.meth x m).ok K
def fSm (x m : Str) : Fx := fun K => He.eqO (findIn K (.ref (He.ga K x)) m) (some (some (.ref (He.ma K (He.ga K x) m)))) && isFn K (.ref (He.ma K (He.ga K x) m))
theorem sm_ok {x m : Str} (h : fSm x m K = true) : Sm K (He.ga K x) m (He.ma K (He.ga K x) m) := let ⟨a, b⟩ := He.ba h; ⟨He.eqO_ok a, b⟩
def fProp (x m : Str) : Fx := fun K => He.eqO (findIn K (.ref (He.ga K x)) m) (some (some (.ref (He.ma K (He.ga K x) m)))) && (He.eqO (specialIn K (.ref (He.ma K (He.ga K x) m)) "__get__") (some (some (.builtin "property.__get__"))) &&
  (decide (takesIn K (.ref (He.ma K (He.ga K x) m)) = some true) && (match recIn K (He.ma K (He.ga K x) m) "property" with
    | some (.ref _ :: _) => true
    | _ => false)))
theorem prop_ok {x m : Str} (h : fProp x m K = true) : PropOf K (He.ga K x) m (He.ma K (He.ga K x) m) (pga K (He.ga K x) m) := by
  obtain ⟨h1, h⟩ := He.ba h
  obtain ⟨h2, h⟩ := He.ba h
  obtain ⟨h3, h4⟩ := He.ba h
  refine ⟨He.eqO_ok h1, He.eqO_ok h2, of_decide_eq_true h3, ?_⟩
  unfold pga
  split at h4
  · rename_i a r q
    rw [q]
    exact ⟨r, rfl⟩
  · cases h4
def fXc (x : Str) : Fx := fun K => xcB K (He.ga K x)
def fXi (x : Str) : Fx := fun K => He.eqO (findIn K (.ref (He.ga K x)) "__init__") (some (some (.ref (He.ma K (He.ga K x) "__init__")))) && decide (typeIn K (.ref (He.ma K (He.ga K x) "__init__")) = some (.type "function"))
theorem xi_ok {x : Str} (h : fXi x K = true) : findIn K (.ref (He.ga K x)) "__init__" = some (some (.ref (He.ma K (He.ga K x) "__init__"))) ∧ typeIn K (.ref (He.ma K (He.ga K x) "__init__")) = some (.type "function") := let ⟨a, b⟩ := He.ba h; ⟨He.eqO_ok a, of_decide_eq_true b⟩
def fExm (x y : Str) (b : Bool) : Fx := fun K => (He.Fa.exm x y b).ok K
def fKit (t T : String) (b : Bool) : Fx := fun K => decide (kitOne K (.type t) (.type T) = some b)
theorem kit_ok {t T : String} {b : Bool} (h : fKit t T b K = true) : kitOne K (.type t) (.type T) = some b := of_decide_eq_true h
end
/-! ### words of the derivations -/
section
variable {X : Cx} {E : XK}
theorem pass_own {E₁ : Value → Shared → Prop} (hs : X.stack = X.env :: X.outer) (hf : X.env.frame = some X.env.locals) (hex : X.ex = []) (hx : X.xe = fun e s' => wpAny (model X.prog X.w) X.A (leaving X.env e) (fun _ s'' => L2.CX X.prog X.w X.outer X.H_0 X.s_0 E e s'') E₁ s') : Passes (L2.CX X.prog X.w) X E :=
  passes_call (takes_of hs hf hex hx) fun _ _ _ _ h => h
def rMulU : R2 := fun x y H Q => rI PySem.IntMulOk (fun i j => .int (i * j)) x y H Q ∨ rRep x y H Q
theorem op_mulU : OpR X (binaryOp .Mult) rMulU := OpR.or (opI fun _ _ _ _ _ _ _ hc q => PyProof.Rows.mul_int q hc) op_rep
def rInU (K : PySem.W.Frag) : R2 := fun x y H Q => rInS x y H Q ∨ rIn K false x y H Q
theorem op_inU : OpR X (compareOp .In) (rInU X.K) := op_inS.or op_in_seq
def rNiU (K : PySem.W.Frag) : R2 := fun x y H Q => rNotInS x y H Q ∨ rIn K true x y H Q
theorem op_niU : OpR X (compareOp .NotIn) (rNiU X.K) := op_notInS.or op_notIn_seq
end
end DL

/-! DK2: the head's look, from the names that a text wants alone (own work). -/
namespace DL
open PySem L2 PySem.W
/-- the addresses that are not yet in the mask m, each once -/
def freshA {α : Type} : List Addr → Nat → List Addr → (List Addr → Nat → α) → α
  | [], m, acc, k => k acc m
  | a :: r, m, acc, k => HandSHeadRun.frNat a fun b => if Nat.beq ((m >>> b) % 2) 1 then freshA r m acc k else HandSHeadRun.frNat (m + (1 <<< b)) fun m2 => freshA r m2 (b :: acc) k
/-- what these reach in n steps -/
def walkA (g : Addr → Option Obj) : Nat → Nat → List Addr → List Addr → List Addr
  | 0, _, _, all => all
  | n + 1, m, fr, all => freshA (fr.flatMap fun a => match g a with
      | some o => He.refsD o
      | none => []) m [] fun new m2 => walkA g n m2 new (all ++ new)
def rootsA (g : Addr → Option Obj) (nm : List Str) : List Addr := nm.filterMap fun x => match nsIn (He.frG g [mainGlobals]) mainGlobals x with
  | some (some (.ref a)) => some a
  | _ => none
def asZ (g : Addr → Option Obj) (nm : List Str) (n : Nat) : List Addr := freshA (rootsA g nm) ((1 <<< mainGlobals) ||| (1 <<< builtinsNs)) [] fun rs m => mainGlobals :: walkA g n m rs rs
def obsZG (n : Nat) (nm : List Str) (ex : List Fx) (fn : List Df) (g : Addr → Option Obj) : AlY := lookY ex fn (He.frG g (asZ g nm n))
def hookZ (n : Nat) (nm : List Str) (ex : List Fx) (fn : List Df) : PySem.W.Hook :=
  { α := AlY, obs := fun s => obsZG n nm ex fn s.heap.get?, val := fun _ => dueY fn, says := fun _ h => ∃ K : PySem.W.Frag, K.In h ∧ SaysY ex fn K,
    of := fun _ _ e => ⟨_, He.frG_in, e⟩,
    keeps := fun _ _ _ w k => w.elim fun K z => ⟨K, PySem.W.Frag.In.keeps z.1 k, z.2⟩ }
theorem obsZG_eq {n : Nat} {nm : List Str} {ex : List Fx} {fn : List Df} {g : Addr → Option Obj} {s : Shared} (h : ∀ a, g a = s.heap.get? a) : obsZG n nm ex fn g = (hookZ n nm ex fn).obs s :=
  congrArg (obsZG n nm ex fn) (funext h)
/-! ### facts that the head is asked -/
/-- an empty tuple of the module -/
def IsT0 (K : PySem.W.Frag) (a : Addr) : Prop := ∃ (o : Obj) (n : Nat), K.lookup a = some o ∧ o.cls = .type "tuple" ∧ o.data = .seq #[] n
def isT0 : Option Obj → Bool
  | some ⟨.type T, _, .seq its _, _⟩ => decide (T = "tuple") && its.isEmpty
  | _ => false
def fT0 (p : Str × Option Str) (i : Nat) : Fx := fun K => isT0 (K.lookup (He.dflAt p i K))
end DL

/-! DK4: facts that the head looks up, made later than DK (own work). -/
namespace DL
open PySem L2 PySem.W
end DL

/-! DK3: the head's run, its facts looked at by parts (own work). -/
namespace DL
open PySem L2 PySem.W
end DL

/-! DK5: the head's run, looked at in several runs that each keep little (own work). -/
namespace DL
open PySem L2 PySem.W HandSHeadRun
/-- what a run of the top says of its own names -/
def SeenEq (r : OpenRow) (q : Program) (M : Nat) (loose : List Str) (w : World) : Prop :=
  ∀ os : OsState, (endF (stepQ (denQ tabQ) r.prog w) M r.prog w os).map (fun s => (looksF r.prog (boot_heap w.params) s.abs, seenQ q loose (importedModules r.prog.main.body) (fun s => xlAt q [] s && recOk r.toRowW.records s) s.abs)) = some (true, openGood q loose)
/-- what a run of the top says of some facts -/
def FactEq (r : OpenRow) (n : Nat) (nm : List Str) (e : List Fx) (f : List Df) (M : Nat) (w : World) : Prop :=
  ∀ os : OsState, (endF (stepQ (denQ tabQ) r.prog w) M r.prog w os).map (fun s => obsZG n nm e f (getT s)) = some (dueY f)
theorem runEq_of {r : OpenRow} {q : Program} {n M : Nat} {nm loose : List Str} {e : List Fx} {f : List Df} {w : World} (h1 : SeenEq r q M loose w) (h2 : FactEq r n nm e f M w) :
    RunEq r q (hookZ n nm e f) (fun s => obsZG n nm e f (getT s)) M loose w := fun os => by
  obtain ⟨s, hs, x⟩ := Option.map_eq_some_iff.mp (h1 os)
  have b := h2 os
  obtain ⟨x1, x2⟩ := Prod.mk.inj x
  rw [hs] at b
  rw [hs]
  exact congrArg some (Prod.ext x1 (Prod.ext x2 (Option.some.inj b)))
end DL

namespace DL
open PySem L2 PySem.W
def fIo2 (x : Str) (op : Operator) : Fx := fun K => selfFirst K (He.ga K x) && fSm x (dunderI op.info.2) K
end DL


namespace K70
open PySem L2 DL PySem.W
abbrev top (i : Nat) : Stmt := PySem.Challenge.pw_alsoshown_k70_all_or_none.main.body.getD i (.Pass ⟨0, 0, 0, 0⟩)
def clsBody : Stmt → List Stmt
  | .ClassDef (body := b) .. => b
  | _ => []
abbrev mth (i j : Nat) : Stmt := (clsBody (top i)).getD j (.Pass ⟨0, 0, 0, 0⟩)
abbrev s_is_name : Stmt := top 23
abbrev s_first_missing : Stmt := top 26
abbrev s_Net___init : Stmt := mth 30 0
abbrev s_Net_posts : Stmt := mth 30 1
abbrev s_Net_lanes : Stmt := mth 30 2
abbrev s_Net_post : Stmt := mth 30 3
abbrev s_Net_lane : Stmt := mth 30 4
abbrev s_Net_start_of : Stmt := mth 30 5
abbrev s_Net_end_of : Stmt := mth 30 6
abbrev s_Net_copy : Stmt := mth 30 8
abbrev s_Net_cut : Stmt := mth 30 9
abbrev s_Scene___init : Stmt := mth 94 0
abbrev s_same_scene : Stmt := top 95
abbrev s_in_net_order : Stmt := top 96
abbrev s_check_deed : Stmt := top 97
abbrev s_do_deed : Stmt := top 98
abbrev s_do_all : Stmt := top 99
abbrev s_Watch___init : Stmt := mth 100 0
abbrev s_Watch_net : Stmt := mth 100 1
abbrev s_Watch_wanted : Stmt := mth 100 2
abbrev s_Watch_told : Stmt := mth 100 11
abbrev s_Watch___iadd : Stmt := mth 100 19
abbrev s_law_cell : Stmt := top 102
abbrev s_law_pool : Stmt := top 103
abbrev s_law_take : Stmt := top 104
abbrev s_law_stranger : Stmt := top 105
abbrev s_law_many : Stmt := top 106
abbrev s_law_mixed : Stmt := top 107
abbrev s_law_strong_net : Stmt := top 108
abbrev s_law_built : Stmt := top 109
abbrev s_law_lanes : Stmt := top 110
abbrev s_law_in_order : Stmt := top 111
abbrev s_law_drop : Stmt := top 112
abbrev s_law_deed : Stmt := top 113
abbrev s_law_form : Stmt := top 114
abbrev s_law_due : Stmt := top 115
abbrev s_law_after : Stmt := top 116
abbrev s_law_same : Stmt := top 117
abbrev s_law_added : Stmt := top 118
abbrev s_law_list : Stmt := top 119
abbrev s_law_all : Stmt := top 120
abbrev s_law_long : Stmt := top 121
abbrev s_law : Stmt := top 122
abbrev s_BadName___init : Stmt := mth 3 0
abbrev s_NameTaken___init : Stmt := mth 4 0
abbrev s_NoPost___init : Stmt := mth 5 0
abbrev s_NoLane___init : Stmt := mth 6 0
abbrev s_BadDeed___init : Stmt := mth 13 0
abbrev s_NotWanted___init : Stmt := mth 18 0
abbrev s_StillWanted___init : Stmt := mth 17 0
theorem sc_is_name : FnScope ["word", "sign"] ["word"] (defScope s_is_name) := ⟨rfl, rfl, rfl, by decide +kernel, rfl, by decide +kernel, by decide +kernel⟩
theorem sc_first_missing : FnScope ["names", "known", "name"] ["names", "known"] (defScope s_first_missing) := ⟨rfl, rfl, rfl, by decide +kernel, rfl, by decide +kernel, by decide +kernel⟩
theorem sc_Net___init : FnScope ["self", "order", "ends_by_lane", "known", "lane"] ["self", "order", "ends_by_lane"] (defScope s_Net___init) := ⟨rfl, rfl, rfl, by decide +kernel, rfl, by decide +kernel, by decide +kernel⟩
theorem sc_Net_posts : FnScope ["self"] ["self"] (defScope s_Net_posts) := ⟨rfl, rfl, rfl, by decide +kernel, rfl, by decide +kernel, by decide +kernel⟩
theorem sc_Net_lanes : FnScope ["self", "lane"] ["self"] (defScope s_Net_lanes) := ⟨rfl, rfl, rfl, by decide +kernel, rfl, by decide +kernel, by decide +kernel⟩
theorem sc_Net_post : FnScope ["self", "name"] ["self", "name"] (defScope s_Net_post) := ⟨rfl, rfl, rfl, by decide +kernel, rfl, by decide +kernel, by decide +kernel⟩
theorem sc_Net_lane : FnScope ["self", "name", "start", "end", "place"] ["self", "name", "start", "end"] (defScope s_Net_lane) := ⟨rfl, rfl, rfl, by decide +kernel, rfl, by decide +kernel, by decide +kernel⟩
theorem sc_Net_start_of : FnScope ["self", "lane"] ["self", "lane"] (defScope s_Net_start_of) := ⟨rfl, rfl, rfl, by decide +kernel, rfl, by decide +kernel, by decide +kernel⟩
theorem sc_Net_end_of : FnScope ["self", "lane"] ["self", "lane"] (defScope s_Net_end_of) := ⟨rfl, rfl, rfl, by decide +kernel, rfl, by decide +kernel, by decide +kernel⟩
theorem sc_Net_copy : FnScope ["self"] ["self"] (defScope s_Net_copy) := ⟨rfl, rfl, rfl, by decide +kernel, rfl, by decide +kernel, by decide +kernel⟩
theorem sc_Net_cut : FnScope ["self", "lane"] ["self", "lane"] (defScope s_Net_cut) := ⟨rfl, rfl, rfl, by decide +kernel, rfl, by decide +kernel, by decide +kernel⟩
theorem sc_Scene___init : FnScope ["self", "base", "goal"] ["self", "base", "goal"] (defScope s_Scene___init) := ⟨rfl, rfl, rfl, by decide +kernel, rfl, by decide +kernel, by decide +kernel⟩
theorem sc_same_scene : FnScope ["scene", "other", "name"] ["scene"] (defScope s_same_scene) := ⟨rfl, rfl, rfl, by decide +kernel, rfl, by decide +kernel, by decide +kernel⟩
theorem sc_in_net_order : FnScope ["net", "lanes", "missing", "lane"] ["net", "lanes"] (defScope s_in_net_order) := ⟨rfl, rfl, rfl, by decide +kernel, rfl, by decide +kernel, by decide +kernel⟩
theorem sc_check_deed : FnScope ["place", "deed", "word"] ["place", "deed"] (defScope s_check_deed) := ⟨rfl, rfl, rfl, by decide +kernel, rfl, by decide +kernel, by decide +kernel⟩
theorem sc_do_deed : FnScope ["scene", "place", "deed", "ahead", "lane", "is_wanted", "other"] ["scene", "place", "deed"] (defScope s_do_deed) := ⟨rfl, rfl, rfl, by decide +kernel, rfl, by decide +kernel, by decide +kernel⟩
theorem sc_do_all : FnScope ["scene", "deeds", "place", "deed"] ["scene", "deeds"] (defScope s_do_all) := ⟨rfl, rfl, rfl, by decide +kernel, rfl, by decide +kernel, by decide +kernel⟩
theorem sc_Watch___init : FnScope ["self", "net", "wanted"] ["self", "net", "wanted"] (defScope s_Watch___init) := ⟨rfl, rfl, rfl, by decide +kernel, rfl, by decide +kernel, by decide +kernel⟩
theorem sc_Watch_net : FnScope ["self"] ["self"] (defScope s_Watch_net) := ⟨rfl, rfl, rfl, by decide +kernel, rfl, by decide +kernel, by decide +kernel⟩
theorem sc_Watch_wanted : FnScope ["self"] ["self"] (defScope s_Watch_wanted) := ⟨rfl, rfl, rfl, by decide +kernel, rfl, by decide +kernel, by decide +kernel⟩
theorem sc_Watch_told : FnScope ["self"] ["self"] (defScope s_Watch_told) := ⟨rfl, rfl, rfl, by decide +kernel, rfl, by decide +kernel, by decide +kernel⟩
theorem sc_Watch___iadd : FnScope ["self", "deeds", "scene"] ["self", "deeds"] (defScope s_Watch___iadd) := ⟨rfl, rfl, rfl, by decide +kernel, rfl, by decide +kernel, by decide +kernel⟩
theorem sc_law_cell : FnScope ["_law_script", "_law_k"] ["_law_script", "_law_k"] (defScope s_law_cell) := ⟨rfl, rfl, rfl, by decide +kernel, rfl, by decide +kernel, by decide +kernel⟩
theorem sc_law_pool : FnScope ["_law_cell_here", "_law_folded"] ["_law_cell_here"] (defScope s_law_pool) := ⟨rfl, rfl, rfl, by decide +kernel, rfl, by decide +kernel, by decide +kernel⟩
theorem sc_law_take : FnScope ["_law_pool_here", "_law_many_here", "_law_draw", "_law_mixed_here"] ["_law_pool_here", "_law_many_here"] (defScope s_law_take) := ⟨rfl, rfl, rfl, by decide +kernel, rfl, by decide +kernel, by decide +kernel⟩
theorem sc_law_stranger : FnScope ["_law_pool_here", "_law_names", "_law_word", "_law_letters", "_law_start", "_law_k", "_law_one"] ["_law_pool_here", "_law_names"] (defScope s_law_stranger) := ⟨rfl, rfl, rfl, by decide +kernel, rfl, by decide +kernel, by decide +kernel⟩
theorem sc_law_many : FnScope ["_law_pool_here", "_law_many_here", "_law_letters", "_law_signs", "_law_stem", "_law_k", "_law_place", "_law_told", "_law_start", "_law_names", "_law_sign"] ["_law_pool_here", "_law_many_here"] (defScope s_law_many) := ⟨rfl, rfl, rfl, by decide +kernel, rfl, by decide +kernel, by decide +kernel⟩
theorem sc_law_mixed : FnScope ["_law_pool_here", "_law_things", "_law_left", "_law_mixed_here", "_law_k", "_law_at"] ["_law_pool_here", "_law_things"] (defScope s_law_mixed) := ⟨rfl, rfl, rfl, by decide +kernel, rfl, by decide +kernel, by decide +kernel⟩
theorem sc_law_strong_net : FnScope ["_law_pool_here", "_law_most", "_law_lanes_here", "_law_names", "_law_posts", "_law_told", "_law_name", "_law_found", "_law_k", "_law_every", "_law_start"] ["_law_pool_here", "_law_most", "_law_lanes_here"] (defScope s_law_strong_net) := ⟨rfl, rfl, rfl, by decide +kernel, rfl, by decide +kernel, by decide +kernel⟩
theorem sc_law_built : FnScope ["_law_parts", "_law_net", "_law_post", "_law_lane", "_law_start", "_law_end"] ["_law_parts"] (defScope s_law_built) := ⟨rfl, rfl, rfl, by decide +kernel, rfl, by decide +kernel, by decide +kernel⟩
theorem sc_law_lanes : FnScope ["_law_parts", "_law_row"] ["_law_parts"] (defScope s_law_lanes) := ⟨rfl, rfl, rfl, by decide +kernel, rfl, by decide +kernel, by decide +kernel⟩
theorem sc_law_in_order : FnScope ["_law_parts", "_law_lanes_here", "_law_row"] ["_law_parts", "_law_lanes_here"] (defScope s_law_in_order) := ⟨rfl, rfl, rfl, by decide +kernel, rfl, by decide +kernel, by decide +kernel⟩
theorem sc_law_drop : FnScope ["_law_parts", "_law_lanes_here", "_law_row"] ["_law_parts", "_law_lanes_here"] (defScope s_law_drop) := ⟨rfl, rfl, rfl, by decide +kernel, rfl, by decide +kernel, by decide +kernel⟩
theorem sc_law_deed : FnScope ["_law_pool_here", "_law_parts", "_law_wanted", "_law_kind", "_law_lanes_here", "_law_name", "_law_lane", "_law_posts", "_law_start", "_law_one", "_law_free", "_law_odd"] ["_law_pool_here", "_law_parts", "_law_wanted"] (defScope s_law_deed) := ⟨rfl, rfl, rfl, by decide +kernel, rfl, by decide +kernel, by decide +kernel⟩
theorem sc_law_form : FnScope ["_law_deed_here", "_law_word"] ["_law_deed_here"] (defScope s_law_form) := ⟨rfl, rfl, rfl, by decide +kernel, rfl, by decide +kernel, by decide +kernel⟩
theorem sc_law_due : FnScope ["_law_parts", "_law_wanted", "_law_deed_here", "_law_place", "_law_lanes_here", "_law_lane", "_law_post", "_law_strange"] ["_law_parts", "_law_wanted", "_law_deed_here", "_law_place"] (defScope s_law_due) := ⟨rfl, rfl, rfl, by decide +kernel, rfl, by decide +kernel, by decide +kernel⟩
theorem sc_law_after : FnScope ["_law_parts", "_law_wanted", "_law_deed_here", "_law_lane", "_law_one"] ["_law_parts", "_law_wanted", "_law_deed_here"] (defScope s_law_after) := ⟨rfl, rfl, rfl, by decide +kernel, rfl, by decide +kernel, by decide +kernel⟩
theorem sc_law_same : FnScope ["_law_watch", "_law_parts", "_law_wanted", "_law_deeds", "_law_net", "_law_row"] ["_law_watch", "_law_parts", "_law_wanted", "_law_deeds"] (defScope s_law_same) := ⟨rfl, rfl, rfl, by decide +kernel, rfl, by decide +kernel, by decide +kernel⟩
theorem sc_law_added : FnScope ["_law_watch", "_law_deeds", "e"] ["_law_watch", "_law_deeds"] (defScope s_law_added) := ⟨rfl, rfl, rfl, by decide +kernel, rfl, by decide +kernel, by decide +kernel⟩
theorem sc_law_list : FnScope ["_law_pool_here", "_law_parts", "_law_wanted", "_law_deeds", "_law_is_strict", "_law_turn", "_law_deed_here", "_law_due_here"] ["_law_pool_here", "_law_parts", "_law_wanted"] (defScope s_law_list) := ⟨rfl, rfl, rfl, by decide +kernel, rfl, by decide +kernel, by decide +kernel⟩
theorem sc_law_all : FnScope ["_law_parts", "_law_wanted", "_law_deeds", "_law_place", "_law_deed_here", "_law_due_here"] ["_law_parts", "_law_wanted", "_law_deeds"] (defScope s_law_all) := ⟨rfl, rfl, rfl, by decide +kernel, rfl, by decide +kernel, by decide +kernel⟩
theorem sc_law_long : FnScope ["_law_pool_here", "_law_wanted", "_law_lane", "_law_words", "_law_k", "_law_deeds"] ["_law_pool_here", "_law_wanted", "_law_lane"] (defScope s_law_long) := ⟨rfl, rfl, rfl, by decide +kernel, rfl, by decide +kernel, by decide +kernel⟩
theorem sc_law : FnScope ["_law_script", "_law_pool_here", "_law_parts", "_law_wanted", "_law_watch", "_law_told", "_law_k", "_law_some", "_law_deeds", "_law_kept", "_law_same_here", "_law_after_here", "_law_found"] ["_law_script"] (defScope s_law) := ⟨rfl, rfl, rfl, by decide +kernel, rfl, by decide +kernel, by decide +kernel⟩
theorem sc_BadName___init : FnScope ["self", "name"] ["self", "name"] (defScope s_BadName___init) := ⟨rfl, rfl, rfl, by decide +kernel, rfl, by decide +kernel, by decide +kernel⟩
theorem sc_NameTaken___init : FnScope ["self", "name"] ["self", "name"] (defScope s_NameTaken___init) := ⟨rfl, rfl, rfl, by decide +kernel, rfl, by decide +kernel, by decide +kernel⟩
theorem sc_NoPost___init : FnScope ["self", "name"] ["self", "name"] (defScope s_NoPost___init) := ⟨rfl, rfl, rfl, by decide +kernel, rfl, by decide +kernel, by decide +kernel⟩
theorem sc_NoLane___init : FnScope ["self", "name"] ["self", "name"] (defScope s_NoLane___init) := ⟨rfl, rfl, rfl, by decide +kernel, rfl, by decide +kernel, by decide +kernel⟩
theorem sc_BadDeed___init : FnScope ["self", "place"] ["self", "place"] (defScope s_BadDeed___init) := ⟨rfl, rfl, rfl, by decide +kernel, rfl, by decide +kernel, by decide +kernel⟩
theorem sc_NotWanted___init : FnScope ["self", "name"] ["self", "name"] (defScope s_NotWanted___init) := ⟨rfl, rfl, rfl, by decide +kernel, rfl, by decide +kernel, by decide +kernel⟩
theorem sc_StillWanted___init : FnScope ["self", "name"] ["self", "name"] (defScope s_StillWanted___init) := ⟨rfl, rfl, rfl, by decide +kernel, rfl, by decide +kernel, by decide +kernel⟩
/-- what the top leaves -/
def exs0 : List Fx := [fStr "LETTERS" "abcdefghijklmnopqrstuvwxyz", fFree "len", fInt "LONGEST" 8, fFree "isinstance", fFree "str", fFree "all", fStr "DIGITS" "0123456789", fFree "list", fT0 ("Net", some "__init__") 0, fFree "tuple", fGlo "is_name", fGlo "BadName", fGlo "NameTaken", fGlo "NoPost", fGlo "NoLane", fMkr "Net", fGlo "Net", fMkr "Scene", fGlo "Scene", fCls "Net", fMeth "Net" "copy", fGlo "first_missing", fProp "Net" "lanes", fGlo "BadDeed", fGlo "check_deed", fMeth "Net" "lane", fGlo "in_net_order", fGlo "StillWanted", fMeth "Net" "cut", fGlo "NotWanted"]
def exs1 : List Fx := [fFree "enumerate", fGlo "do_deed", fT0 ("Watch", some "__init__") 0, fGlo "same_scene", fGlo "do_all", fFree "int", fGlo "_law_take", fFree "range", fGlo "_law_many", fGlo "_law_mixed", fMeth "Net" "post", fGlo "_law_lanes", fGlo "_law_stranger", fGlo "_law_form", fGlo "_law_drop", fCls "Watch", fProp "Watch" "net", fProp "Net" "posts", fMeth "Net" "end_of", fMeth "Net" "start_of", fMeth "Watch" "told", fProp "Watch" "wanted", fGlo "_law_in_order", fXc "NotWanted", fNoat "NotWanted" "name", fXc "StillWanted", fNoat "StillWanted" "name", fXc "NoLane", fNoat "NoLane" "name", fXc "NoPost"]
def exs2 : List Fx := [fNoat "NoPost" "name", fXc "NameTaken", fNoat "NameTaken" "name", fXc "BadName", fNoat "BadName" "name", fXc "BadDeed", fNoat "BadDeed" "place", fIo2 "Watch" .Add, fGlo "_law_deed", fGlo "_law_due", fGlo "_law_after", fGlo "_law_pool", fGlo "_law_cell", fGlo "_law_strong_net", fMkr "Watch", fGlo "Watch", fGlo "_law_built", fGlo "_law_list", fGlo "_law_long", fGlo "_law_all", fGlo "_law_added", fGlo "_law_same", fXi "BadName", fXi "NameTaken", fXi "NoPost", fXi "NoLane", fXi "BadDeed", fXi "NotWanted", fXi "StillWanted", fGlo "law"]
def exs3 : List Fx := [fKit "NoneType" "str" false, fKit "bool" "str" false, fKit "int" "str" false, fKit "list" "str" false, fKit "tuple" "str" false, fKit "str" "str" true, fNoat "Net" "order", fNoat "Net" "ends_by_lane", fCls "Scene", fNoat "Scene" "base", fNoat "Scene" "goal", fNoat "Scene" "deeds", fNoat "Scene" "ahead", fNoat "Scene" "pattern_by_name", fKit "NoneType" "tuple" false, fKit "str" "tuple" false, fKit "list" "tuple" false, fKit "tuple" "tuple" true, fNoat "Watch" "scene", fExm "BadDeed" "BadDeed" true, fExm "BadName" "BadDeed" false, fExm "BadName" "BadName" true, fExm "NameTaken" "BadDeed" false, fExm "NameTaken" "BadName" false, fExm "NameTaken" "NameTaken" true, fExm "NoPost" "BadDeed" false, fExm "NoPost" "BadName" false, fExm "NoPost" "NameTaken" false, fExm "NoPost" "NoPost" true, fExm "NoLane" "BadDeed" false]
def exs4 : List Fx := [fExm "NoLane" "BadName" false, fExm "NoLane" "NameTaken" false, fExm "NoLane" "NoPost" false, fExm "NoLane" "NoLane" true, fExm "StillWanted" "BadDeed" false, fExm "StillWanted" "BadName" false, fExm "StillWanted" "NameTaken" false, fExm "StillWanted" "NoPost" false, fExm "StillWanted" "NoLane" false, fExm "StillWanted" "StillWanted" true, fExm "NotWanted" "BadDeed" false, fExm "NotWanted" "BadName" false, fExm "NotWanted" "NameTaken" false, fExm "NotWanted" "NoPost" false, fExm "NotWanted" "NoLane" false, fExm "NotWanted" "StillWanted" false, fExm "NotWanted" "NotWanted" true]
abbrev exs : List Fx := exs0 ++ exs1 ++ exs2 ++ exs3 ++ exs4
def dfs0 : List Df := [⟨fun K => (He.ga K "is_name"), "is_name", "is_name", defArgs s_is_name, defBody s_is_name, defScope s_is_name, fun K => []⟩, ⟨fun K => (He.ga K "first_missing"), "first_missing", "first_missing", defArgs s_first_missing, defBody s_first_missing, defScope s_first_missing, fun K => []⟩, ⟨fun K => (He.ma K (He.ga K "Net") "__init__"), "__init__", "Net.__init__", defArgs s_Net___init, defBody s_Net___init, defScope s_Net___init, fun K => [.ref (He.dflAt ("Net", some "__init__") 0 K), .non]⟩, ⟨fun K => (pga K (He.ga K "Net") "posts"), "posts", "Net.posts", defArgs s_Net_posts, defBody s_Net_posts, defScope s_Net_posts, fun K => []⟩, ⟨fun K => (pga K (He.ga K "Net") "lanes"), "lanes", "Net.lanes", defArgs s_Net_lanes, defBody s_Net_lanes, defScope s_Net_lanes, fun K => []⟩, ⟨fun K => (He.ma K (He.ga K "Net") "post"), "post", "Net.post", defArgs s_Net_post, defBody s_Net_post, defScope s_Net_post, fun K => []⟩, ⟨fun K => (He.ma K (He.ga K "Net") "lane"), "lane", "Net.lane", defArgs s_Net_lane, defBody s_Net_lane, defScope s_Net_lane, fun K => []⟩, ⟨fun K => (He.ma K (He.ga K "Net") "start_of"), "start_of", "Net.start_of", defArgs s_Net_start_of, defBody s_Net_start_of, defScope s_Net_start_of, fun K => []⟩, ⟨fun K => (He.ma K (He.ga K "Net") "end_of"), "end_of", "Net.end_of", defArgs s_Net_end_of, defBody s_Net_end_of, defScope s_Net_end_of, fun K => []⟩, ⟨fun K => (He.ma K (He.ga K "Net") "copy"), "copy", "Net.copy", defArgs s_Net_copy, defBody s_Net_copy, defScope s_Net_copy, fun K => []⟩, ⟨fun K => (He.ma K (He.ga K "Net") "cut"), "cut", "Net.cut", defArgs s_Net_cut, defBody s_Net_cut, defScope s_Net_cut, fun K => []⟩, ⟨fun K => (He.ma K (He.ga K "Scene") "__init__"), "__init__", "Scene.__init__", defArgs s_Scene___init, defBody s_Scene___init, defScope s_Scene___init, fun K => []⟩, ⟨fun K => (He.ga K "same_scene"), "same_scene", "same_scene", defArgs s_same_scene, defBody s_same_scene, defScope s_same_scene, fun K => []⟩, ⟨fun K => (He.ga K "in_net_order"), "in_net_order", "in_net_order", defArgs s_in_net_order, defBody s_in_net_order, defScope s_in_net_order, fun K => []⟩, ⟨fun K => (He.ga K "check_deed"), "check_deed", "check_deed", defArgs s_check_deed, defBody s_check_deed, defScope s_check_deed, fun K => []⟩, ⟨fun K => (He.ga K "do_deed"), "do_deed", "do_deed", defArgs s_do_deed, defBody s_do_deed, defScope s_do_deed, fun K => []⟩, ⟨fun K => (He.ga K "do_all"), "do_all", "do_all", defArgs s_do_all, defBody s_do_all, defScope s_do_all, fun K => []⟩, ⟨fun K => (He.ma K (He.ga K "Watch") "__init__"), "__init__", "Watch.__init__", defArgs s_Watch___init, defBody s_Watch___init, defScope s_Watch___init, fun K => [.ref (He.dflAt ("Watch", some "__init__") 0 K)]⟩, ⟨fun K => (pga K (He.ga K "Watch") "net"), "net", "Watch.net", defArgs s_Watch_net, defBody s_Watch_net, defScope s_Watch_net, fun K => []⟩, ⟨fun K => (pga K (He.ga K "Watch") "wanted"), "wanted", "Watch.wanted", defArgs s_Watch_wanted, defBody s_Watch_wanted, defScope s_Watch_wanted, fun K => []⟩, ⟨fun K => (He.ma K (He.ga K "Watch") "told"), "told", "Watch.told", defArgs s_Watch_told, defBody s_Watch_told, defScope s_Watch_told, fun K => []⟩, ⟨fun K => (He.ma K (He.ga K "Watch") "__iadd__"), "__iadd__", "Watch.__iadd__", defArgs s_Watch___iadd, defBody s_Watch___iadd, defScope s_Watch___iadd, fun K => []⟩, ⟨fun K => (He.ga K "_law_cell"), "_law_cell", "_law_cell", defArgs s_law_cell, defBody s_law_cell, defScope s_law_cell, fun K => []⟩, ⟨fun K => (He.ga K "_law_pool"), "_law_pool", "_law_pool", defArgs s_law_pool, defBody s_law_pool, defScope s_law_pool, fun K => []⟩, ⟨fun K => (He.ga K "_law_take"), "_law_take", "_law_take", defArgs s_law_take, defBody s_law_take, defScope s_law_take, fun K => []⟩, ⟨fun K => (He.ga K "_law_stranger"), "_law_stranger", "_law_stranger", defArgs s_law_stranger, defBody s_law_stranger, defScope s_law_stranger, fun K => []⟩, ⟨fun K => (He.ga K "_law_many"), "_law_many", "_law_many", defArgs s_law_many, defBody s_law_many, defScope s_law_many, fun K => []⟩, ⟨fun K => (He.ga K "_law_mixed"), "_law_mixed", "_law_mixed", defArgs s_law_mixed, defBody s_law_mixed, defScope s_law_mixed, fun K => []⟩, ⟨fun K => (He.ga K "_law_strong_net"), "_law_strong_net", "_law_strong_net", defArgs s_law_strong_net, defBody s_law_strong_net, defScope s_law_strong_net, fun K => []⟩, ⟨fun K => (He.ga K "_law_built"), "_law_built", "_law_built", defArgs s_law_built, defBody s_law_built, defScope s_law_built, fun K => []⟩]
def dfs1 : List Df := [⟨fun K => (He.ga K "_law_lanes"), "_law_lanes", "_law_lanes", defArgs s_law_lanes, defBody s_law_lanes, defScope s_law_lanes, fun K => []⟩, ⟨fun K => (He.ga K "_law_in_order"), "_law_in_order", "_law_in_order", defArgs s_law_in_order, defBody s_law_in_order, defScope s_law_in_order, fun K => []⟩, ⟨fun K => (He.ga K "_law_drop"), "_law_drop", "_law_drop", defArgs s_law_drop, defBody s_law_drop, defScope s_law_drop, fun K => []⟩, ⟨fun K => (He.ga K "_law_deed"), "_law_deed", "_law_deed", defArgs s_law_deed, defBody s_law_deed, defScope s_law_deed, fun K => []⟩, ⟨fun K => (He.ga K "_law_form"), "_law_form", "_law_form", defArgs s_law_form, defBody s_law_form, defScope s_law_form, fun K => []⟩, ⟨fun K => (He.ga K "_law_due"), "_law_due", "_law_due", defArgs s_law_due, defBody s_law_due, defScope s_law_due, fun K => []⟩, ⟨fun K => (He.ga K "_law_after"), "_law_after", "_law_after", defArgs s_law_after, defBody s_law_after, defScope s_law_after, fun K => []⟩, ⟨fun K => (He.ga K "_law_same"), "_law_same", "_law_same", defArgs s_law_same, defBody s_law_same, defScope s_law_same, fun K => []⟩, ⟨fun K => (He.ga K "_law_added"), "_law_added", "_law_added", defArgs s_law_added, defBody s_law_added, defScope s_law_added, fun K => []⟩, ⟨fun K => (He.ga K "_law_list"), "_law_list", "_law_list", defArgs s_law_list, defBody s_law_list, defScope s_law_list, fun K => []⟩, ⟨fun K => (He.ga K "_law_all"), "_law_all", "_law_all", defArgs s_law_all, defBody s_law_all, defScope s_law_all, fun K => []⟩, ⟨fun K => (He.ga K "_law_long"), "_law_long", "_law_long", defArgs s_law_long, defBody s_law_long, defScope s_law_long, fun K => []⟩, ⟨fun K => (He.ga K "law"), "law", "law", defArgs s_law, defBody s_law, defScope s_law, fun K => []⟩, ⟨fun K => (He.ma K (He.ga K "BadName") "__init__"), "__init__", "BadName.__init__", defArgs s_BadName___init, defBody s_BadName___init, defScope s_BadName___init, fun K => []⟩, ⟨fun K => (He.ma K (He.ga K "NameTaken") "__init__"), "__init__", "NameTaken.__init__", defArgs s_NameTaken___init, defBody s_NameTaken___init, defScope s_NameTaken___init, fun K => []⟩, ⟨fun K => (He.ma K (He.ga K "NoPost") "__init__"), "__init__", "NoPost.__init__", defArgs s_NoPost___init, defBody s_NoPost___init, defScope s_NoPost___init, fun K => []⟩, ⟨fun K => (He.ma K (He.ga K "NoLane") "__init__"), "__init__", "NoLane.__init__", defArgs s_NoLane___init, defBody s_NoLane___init, defScope s_NoLane___init, fun K => []⟩, ⟨fun K => (He.ma K (He.ga K "BadDeed") "__init__"), "__init__", "BadDeed.__init__", defArgs s_BadDeed___init, defBody s_BadDeed___init, defScope s_BadDeed___init, fun K => []⟩, ⟨fun K => (He.ma K (He.ga K "NotWanted") "__init__"), "__init__", "NotWanted.__init__", defArgs s_NotWanted___init, defBody s_NotWanted___init, defScope s_NotWanted___init, fun K => []⟩, ⟨fun K => (He.ma K (He.ga K "StillWanted") "__init__"), "__init__", "StillWanted.__init__", defArgs s_StillWanted___init, defBody s_StillWanted___init, defScope s_StillWanted___init, fun K => []⟩]
abbrev dfs : List Df := dfs0 ++ dfs1
def names0 : List Str := ["_wall", "ShowError", "BadName", "NameTaken", "NoPost", "NoLane", "Clash", "NoPattern", "EmptyWalk", "EmptyWord", "NothingWanted", "BadText", "BadDeed", "BadNumber", "NoRound", "OneRing", "StillWanted", "NotWanted", "LETTERS", "DIGITS", "LONGEST", "is_name", "is_whole", "is_count", "first_missing", "are_strings", "are_names", "Net", "made_of_both", "is_within"]
def names1 : List Str := ["shortest_way", "reached_posts", "parts_of", "Machine", "made_machine", "read_tree", "crossed", "accepts", "ENDS", "sign_at", "read_pattern", "behind_row", "read_row", "read_item", "read_name", "read_names", "read_group", "expect", "Round", "in_order", "check_lanes", "begins_at", "is_turned", "joined", "opposite", "tree_names", "text_of", "atom_text", "Pattern", "word_pattern"]
def names2 : List Str := ["as_pattern", "machine_of", "moves_of", "reversed_moves", "finished_order", "strong_lots", "inner_lanes", "Asked", "inner_ends", "part_with", "found_part", "closed_walk", "avoidable_number", "is_avoidable", "shown_walk", "only_ring", "check_many", "is_sure", "longest", "greatest", "is_inside", "ascending", "Scene", "same_scene", "in_net_order", "check_deed", "do_deed", "do_all", "Watch", "_law_cell"]
def names3 : List Str := ["_law_pool", "_law_take", "_law_stranger", "_law_many", "_law_mixed", "_law_strong_net", "_law_built", "_law_lanes", "_law_in_order", "_law_drop", "_law_deed", "_law_form", "_law_due", "_law_after", "_law_same", "_law_added", "_law_list", "_law_all", "_law_long"]
abbrev names : List Str := names0 ++ names1 ++ names2 ++ names3
abbrev R : PySem.W.OpenRow := PySem.W.OpenLaw.row PySem.Challenge.rw_alsoshown_k70_all_or_none
abbrev qv : Program := view R.prog [122]
def rts0 : List Str := ["is_name", "first_missing", "Net", "Scene", "same_scene", "in_net_order", "check_deed", "do_deed", "do_all", "Watch", "_law_cell", "_law_pool", "_law_take", "_law_stranger", "_law_many", "_law_mixed", "_law_strong_net", "_law_built", "_law_lanes", "_law_in_order", "_law_drop", "_law_deed", "_law_form", "_law_due", "_law_after", "_law_same", "_law_added", "_law_list", "_law_all", "_law_long"]
def rts1 : List Str := ["law", "BadName", "NameTaken", "NoPost", "NoLane", "BadDeed", "NotWanted", "StillWanted", "LETTERS", "LONGEST", "DIGITS"]
abbrev rts : List Str := rts0 ++ rts1
abbrev hk : PySem.W.Hook := hookZ 5 rts exs dfs
def ob (s : PySem.W.SharedT) : AlY := obsZG 5 rts exs dfs (HandSHeadRun.getT s)
theorem ob_eq (s : PySem.W.SharedT) : ob s = hk.obs s.abs := obsZG_eq (HandSHeadRun.getT_eq s)
theorem seen0 (w : World) : SeenEq R qv 14000 names (w.withFollow "special-get-raises" false) := by
  intro os
  kernel_rfl
theorem fact0a (w : World) : FactEq R 5 rts (exs0 ++ exs1 ++ exs2 ++ exs3 ++ exs4) (dfs0 ++ dfs1) 14000 (w.withFollow "special-get-raises" false) := by
  intro os
  kernel_rfl
theorem run0 (w : World) : HandSHeadRun.RunEq R qv (hookZ 5 rts (exs0 ++ exs1 ++ exs2 ++ exs3 ++ exs4) (dfs0 ++ dfs1)) (fun s => obsZG 5 rts (exs0 ++ exs1 ++ exs2 ++ exs3 ++ exs4) (dfs0 ++ dfs1) (HandSHeadRun.getT s)) 14000 names (w.withFollow "special-get-raises" false) := by
  have h := fact0a w
  simp only [List.append_assoc, List.append_nil, List.nil_append] at h
  refine runEq_of (seen0 w) ?_
  simp only [List.append_assoc, List.append_nil, List.nil_append]
  exact h
theorem seen1 (w : World) : SeenEq R qv 14000 names (w.withFollow "special-get-raises" true) := by
  intro os
  kernel_rfl
theorem fact1a (w : World) : FactEq R 5 rts (exs0 ++ exs1 ++ exs2 ++ exs3 ++ exs4) (dfs0 ++ dfs1) 14000 (w.withFollow "special-get-raises" true) := by
  intro os
  kernel_rfl
theorem run1 (w : World) : HandSHeadRun.RunEq R qv (hookZ 5 rts (exs0 ++ exs1 ++ exs2 ++ exs3 ++ exs4) (dfs0 ++ dfs1)) (fun s => obsZG 5 rts (exs0 ++ exs1 ++ exs2 ++ exs3 ++ exs4) (dfs0 ++ dfs1) (HandSHeadRun.getT s)) 14000 names (w.withFollow "special-get-raises" true) := by
  have h := fact1a w
  simp only [List.append_assoc, List.append_nil, List.nil_append] at h
  refine runEq_of (seen1 w) ?_
  simp only [List.append_assoc, List.append_nil, List.nil_append]
  exact h
theorem run (w : World) : HandSHeadRun.RunEq R qv hk ob 14000 names w := PySem.W.byRow2 "special-get-raises" (P := fun w => HandSHeadRun.RunEq R qv hk ob 14000 names w) run0 run1 w
end K70

/-! DA: a logic of data over the readings: frozen data, views, cells (own work). -/
namespace DL
open PySem L2

/-- data -/
inductive D where
  | non | bl (b : Bool) | int (i : Int) | str (s : Str)
  | tup (xs : List D) | lst (xs : List D) | dic (kvs : List (Key × D)) | dit (kvs : List (List Key × D))
  | ins (C : Addr) (fs : List (Str × D)) | ty (n : String) | adr (a : Addr)
  | din (w : World) (kvs : List (NestedKey × D))

/-! ### dicts whose keys are tuples of any depth -/
/-- an entry as it lies in the dict's object -/
def entN (w : World) (q : NestedKey × Addr × Value) : DictEntry := ⟨q.1.hash w, .ref q.2.1, q.2.2⟩
/-- the dict at a: its keys (each at its address), its values -/
def DnO (w : World) (a : Addr) (xs : List (NestedKey × Addr × V)) : HO := .ext fun h => xs.length ≤ sizeLine ∧ (a == sysModules) = false ∧ ∃ qs : List (NestedKey × Addr × Value),
  Paired (fun p q => p.1 = q.1 ∧ p.2.1 = q.2.1 ∧ RelV p.2.2 q.2.2) xs qs ∧ ∃ o es ep, h.get? a = some o ∧ o.ExactDict ∧ o.data = .dict es ep ∧ es.toList = qs.map (entN w) ∧ (qs.map (·.1)).Nodup
mutual
/-- a thing that is the key -/
def RkN (K : PySem.W.Frag) (F : Hp) : NestedKey → V → Prop
  | .none, v => v = .non
  | .num i, v => v = .int i
  | .text s, v => v = .str s
  | .tup ks, v => ∃ a xs, v = .ref a ∧ SqT K F a xs ∧ RkL K F ks xs
def RkL (K : PySem.W.Frag) (F : Hp) : List NestedKey → List V → Prop
  | [], xs => xs = []
  | k :: ks, xs => ∃ x ys, xs = x :: ys ∧ RkN K F k x ∧ RkL K F ks ys
end

mutual
def Rp (K : PySem.W.Frag) (F : Hp) : D → V → Prop
  | .non, v => v = .non
  | .bl b, v => v = .bl b
  | .int i, v => v = .int i
  | .str s, v => v = .str s
  | .ty n, v => v = .ty n
  | .adr a, v => v = .ref a
  | .tup ds, v => ∃ a xs, v = .ref a ∧ SqT K F a xs ∧ RpL K F ds xs
  | .lst ds, v => ∃ a xs, v = .ref a ∧ Rd F a (.lst xs) ∧ RpL K F ds xs
  | .dic ds, v => ∃ a xs, v = .ref a ∧ Rd F a (.dK xs) ∧ RpK K F ds xs
  | .dit ds, v => ∃ a xs, v = .ref a ∧ Rd F a (.dT xs) ∧ RpT K F ds xs
  | .ins C ds, v => ∃ a dx xs, v = .ref a ∧ Rd F a (.ins C dx xs) ∧ RpF K F ds xs
  | .din w ds, v => ∃ a xs, v = .ref a ∧ Rd F a (DnO w a xs) ∧ RpN K F ds xs
def RpN (K : PySem.W.Frag) (F : Hp) : List (NestedKey × D) → List (NestedKey × Addr × V) → Prop
  | [], xs => xs = []
  | (k, d) :: ds, xs => ∃ b x ys, xs = (k, b, x) :: ys ∧ (RkN K F k (.ref b) ∧ k.depth ≤ 8) ∧ Rp K F d x ∧ RpN K F ds ys
def RpL (K : PySem.W.Frag) (F : Hp) : List D → List V → Prop
  | [], xs => xs = []
  | d :: ds, xs => ∃ x ys, xs = x :: ys ∧ Rp K F d x ∧ RpL K F ds ys
def RpK (K : PySem.W.Frag) (F : Hp) : List (Key × D) → List (Key × V) → Prop
  | [], xs => xs = []
  | (k, d) :: ds, xs => ∃ x ys, xs = (k, x) :: ys ∧ Rp K F d x ∧ RpK K F ds ys
def RpT (K : PySem.W.Frag) (F : Hp) : List (List Key × D) → List (List Key × V) → Prop
  | [], xs => xs = []
  | (k, d) :: ds, xs => ∃ x ys, xs = (k, x) :: ys ∧ Rp K F d x ∧ RpT K F ds ys
def RpF (K : PySem.W.Frag) (F : Hp) : List (Str × D) → List (Str × V) → Prop
  | [], xs => xs = []
  | (k, d) :: ds, xs => ∃ x ys, xs = (k, x) :: ys ∧ Rp K F d x ∧ RpF K F ds ys
end


def isfz : HO → Bool
  | .frz _ _ => true
  | _ => false
/-- nothing of F is locked -/
def Nz (F : Hp) : Prop := ∀ a u, F a = some u → isfz u = false
/-- what a loop may lock -/
def lk : HO → Bool
  | .dK _ => true
  | .dT _ => true
  | .lst _ => true
  | .ext _ => true
  | _ => false
/-- all that F says may be read in H -/
def Exz (F H : Hp) : Prop := ∀ a u, F a = some u → H a = some u ∨ (lk u = true ∧ ∃ o, H a = some (.frz o u))
theorem exz_rd {F H : Hp} (e : Exz F H) {a : Addr} {u : HO} (h : F a = some u) : Rd H a u := by
  rcases e a u h with q | ⟨_, o, q⟩
  · exact .inl q
  · exact .inr ⟨o, q⟩
/-- what is never locked stands as it is -/
theorem Exz.at {F H : Hp} (e : Exz F H) {a : Addr} {u : HO} (h : F a = some u) (k : lk u = false) : H a = some u := by
  rcases e a u h with q | ⟨k2, _⟩
  · exact q
  · rw [k] at k2
    cases k2
/-- all of B stands in H as it is -/
def Sub (B H : Hp) : Prop := ∀ a o, B a = some o → H a = some o
theorem Sub.refl (H : Hp) : Sub H H := fun _ _ h => h
theorem Sub.trans {F G H : Hp} (a : Sub F G) (b : Sub G H) : Sub F H := fun x u h => b x u (a x u h)
theorem Sub.exz {B H : Hp} (e : Sub B H) : Exz B H := fun a u h => .inl (e _ _ h)
theorem Sub.new {H : Hp} {p : Addr} {o : HO} (h : H p = none) : Sub H (upd H p o) := fun a u e => by
  rw [upd_ne (ne_of_none e h)]
  exact e
theorem Sub.free {F H : Hp} (e : Sub F H) {a : Addr} (h : H a = none) : F a = none := by
  cases q : F a with
  | none => rfl
  | some o =>
    rw [e a o q] at h
    cases h
theorem rd_ne {H : Hp} {a : Addr} {u : HO} (h : Rd H a u) : H a ≠ none := by
  rcases h with h | ⟨o, h⟩ <;> rw [h] <;> exact fun q => by cases q
theorem Exz.free {F H : Hp} (e : Exz F H) {a : Addr} (h : H a = none) : F a = none := by
  cases q : F a with
  | none => rfl
  | some o => exact absurd h (rd_ne (exz_rd e q))
theorem Exz.rd {F H : Hp} (e : Exz F H) (n : Nz F) {a : Addr} {u : HO} (h : Rd F a u) : Rd H a u := by
  rcases h with h | ⟨o, h⟩
  · exact exz_rd e h
  · have := n a _ h
    cases this
theorem Exz.sub {F G H : Hp} (a : Exz F G) (b : Sub G H) : Exz F H := fun x u h => by
  rcases a x u h with q | ⟨k, o, q⟩
  · exact .inl (b _ _ q)
  · exact .inr ⟨k, o, b _ _ q⟩
theorem sqT_mono {K : PySem.W.Frag} {F H : Hp} {a : Addr} {xs : List V} (e : Exz F H) (n : Nz F) (h : SqT K F a xs) : SqT K H a xs := by
  rcases h with h | h
  · exact .inl (e.rd n h)
  · exact .inr h
section
variable {K : PySem.W.Frag} {F G : Hp}
mutual
theorem RkN.mono (e : Exz F G) (n : Nz F) : ∀ (k : NestedKey) (v : V), RkN K F k v → RkN K G k v
  | .none, _, h => h
  | .num _, _, h => h
  | .text _, _, h => h
  | .tup ks, v, h => by
    obtain ⟨a, xs, e1, h1, h2⟩ := h
    exact ⟨a, xs, e1, sqT_mono e n h1, RkL.mono e n ks xs h2⟩
theorem RkL.mono (e : Exz F G) (n : Nz F) : ∀ (ks : List NestedKey) (xs : List V), RkL K F ks xs → RkL K G ks xs
  | [], _, h => h
  | k :: ks, xs, h => by
    obtain ⟨x, ys, e1, h1, h2⟩ := h
    exact ⟨x, ys, e1, RkN.mono e n k x h1, RkL.mono e n ks ys h2⟩
end
mutual
theorem Rp.mono (e : Exz F G) (n : Nz F) : ∀ (d : D) (v : V), Rp K F d v → Rp K G d v
  | .non, _, h => h
  | .bl _, _, h => h
  | .int _, _, h => h
  | .str _, _, h => h
  | .ty _, _, h => h
  | .adr _, _, h => h
  | .tup ds, v, h => by
    obtain ⟨a, xs, e1, h1, h2⟩ := h
    exact ⟨a, xs, e1, sqT_mono e n h1, RpL.mono e n ds xs h2⟩
  | .lst ds, v, h => by
    obtain ⟨a, xs, e1, h1, h2⟩ := h
    exact ⟨a, xs, e1, e.rd n h1, RpL.mono e n ds xs h2⟩
  | .dic ds, v, h => by
    obtain ⟨a, xs, e1, h1, h2⟩ := h
    exact ⟨a, xs, e1, e.rd n h1, RpK.mono e n ds xs h2⟩
  | .dit ds, v, h => by
    obtain ⟨a, xs, e1, h1, h2⟩ := h
    exact ⟨a, xs, e1, e.rd n h1, RpT.mono e n ds xs h2⟩
  | .ins C ds, v, h => by
    obtain ⟨a, dx, xs, e1, h1, h2⟩ := h
    exact ⟨a, dx, xs, e1, e.rd n h1, RpF.mono e n ds xs h2⟩
  | .din w ds, v, h => by
    obtain ⟨a, xs, e1, h1, h2⟩ := h
    exact ⟨a, xs, e1, e.rd n h1, RpN.mono e n ds xs h2⟩
theorem RpN.mono (e : Exz F G) (n : Nz F) : ∀ (ds : List (NestedKey × D)) (xs : List (NestedKey × Addr × V)), RpN K F ds xs → RpN K G ds xs
  | [], _, h => h
  | (k, d) :: ds, xs, h => by
    obtain ⟨b, x, ys, e1, h0, h1, h2⟩ := h
    exact ⟨b, x, ys, e1, ⟨RkN.mono e n k _ h0.1, h0.2⟩, Rp.mono e n d x h1, RpN.mono e n ds ys h2⟩
theorem RpL.mono (e : Exz F G) (n : Nz F) : ∀ (ds : List D) (xs : List V), RpL K F ds xs → RpL K G ds xs
  | [], _, h => h
  | d :: ds, xs, h => by
    obtain ⟨x, ys, e1, h1, h2⟩ := h
    exact ⟨x, ys, e1, Rp.mono e n d x h1, RpL.mono e n ds ys h2⟩
theorem RpK.mono (e : Exz F G) (n : Nz F) : ∀ (ds : List (Key × D)) (xs : List (Key × V)), RpK K F ds xs → RpK K G ds xs
  | [], _, h => h
  | (k, d) :: ds, xs, h => by
    obtain ⟨x, ys, e1, h1, h2⟩ := h
    exact ⟨x, ys, e1, Rp.mono e n d x h1, RpK.mono e n ds ys h2⟩
theorem RpT.mono (e : Exz F G) (n : Nz F) : ∀ (ds : List (List Key × D)) (xs : List (List Key × V)), RpT K F ds xs → RpT K G ds xs
  | [], _, h => h
  | (k, d) :: ds, xs, h => by
    obtain ⟨x, ys, e1, h1, h2⟩ := h
    exact ⟨x, ys, e1, Rp.mono e n d x h1, RpT.mono e n ds ys h2⟩
theorem RpF.mono (e : Exz F G) (n : Nz F) : ∀ (ds : List (Str × D)) (xs : List (Str × V)), RpF K F ds xs → RpF K G ds xs
  | [], _, h => h
  | (k, d) :: ds, xs, h => by
    obtain ⟨x, ys, e1, h1, h2⟩ := h
    exact ⟨x, ys, e1, Rp.mono e n d x h1, RpF.mono e n ds ys h2⟩
end
end

/-! ### worlds -/
/-- what may be read of B and F together -/
def uni (B F : Hp) : Hp := fun a => match F a with
  | some o => some o
  | none => match B a with
    | some (.frz _ u) => if lk u then some u else none
    | x => x
inductive W where
  | val (d : D) | vw (d : D)
def WOk (K : PySem.W.Frag) (B F : Hp) (v : V) : W → Prop
  | .val d => Rp K F d v
  | .vw d => Rp K (uni B F) d v
inductive Nd where
  | lst (ds : List D) | dic (ds : List (Key × D)) | dit (ds : List (List Key × D)) | ldic (o : Obj) (xs : List (Key × V)) (ds : List (Key × D)) | ins (C : Addr) (ds : List (Str × D)) | xd (ds : List (Str × D))
  | din (w : World) (ds : List (NestedKey × D))
def NdOk (K : PySem.W.Frag) (F H : Hp) (a : Addr) : Nd → Prop
  | .lst ds => ∃ xs, H a = some (.lst xs) ∧ RpL K F ds xs
  | .dic ds => ∃ xs, H a = some (.dK xs) ∧ RpK K F ds xs
  | .dit ds => ∃ xs, H a = some (.dT xs) ∧ RpT K F ds xs
  | .ldic o xs ds => H a = some (.frz o (.dK xs)) ∧ RpK K F ds xs
  | .ins C ds => ∃ dx xs, H a = some (.ins C dx xs) ∧ RpF K F ds xs
  | .xd ds => ∃ xs, H a = some (.xd xs) ∧ RpF K F ds xs
  | .din w ds => ∃ xs, H a = some (DnO w a xs) ∧ RpN K F ds xs
abbrev Cells := List (Addr × Nd)
/-- F has grown, off B -/
structure Gr (B F F' : Hp) : Prop where
  sub : Sub F F'
  off : ∀ a, F a = none → B a ≠ none → F' a = none
theorem Gr.refl (B F : Hp) : Gr B F F := ⟨Sub.refl F, fun _ h _ => h⟩
theorem Gr.trans {B F G H : Hp} (a : Gr B F G) (b : Gr B G H) : Gr B F H := ⟨a.sub.trans b.sub, fun x h n => b.off x (a.off x h n) n⟩
/-- the state by data, over the frozen F: the slots, the cells, what is held on the way -/
structure EnF (K : PySem.W.Frag) (B F : Hp) (ro : List (Option W)) (ka : Cells) (ta : List (V × W)) (sg : L2.St) (H : Hp) : Prop where
  nz : Nz F
  fz : Exz F H
  fr : Sub B H
  nd : (ka.map (·.1)).Nodup
  ce : ∀ p ∈ ka, F p.1 = none ∧ B p.1 = none ∧ NdOk K F H p.1 p.2
  ln : sg.length = ro.length
  sl : ∀ (i : Nat) (w : W), ro[i]? = some (some w) → ∃ v, sg[i]? = some (some v) ∧ WOk K B F v w
  tm : ∀ p ∈ ta, WOk K B F p.1 p.2
def En (K : PySem.W.Frag) (B F0 : Hp) (ro : List (Option W)) (ka : Cells) (ta : List (V × W)) (sg : L2.St) (H : Hp) : Prop :=
  ∃ F, Gr B F0 F ∧ EnF K B F ro ka ta sg H

theorem uni_nz {B F : Hp} (n : Nz F) : Nz (uni B F) := fun a u h => by
  unfold uni at h
  split at h
  · rename_i o q
    exact n a u (q.trans h)
  · split at h
    · rename_i ob x q
      split at h
      · rename_i hx
        cases h
        cases u <;> first | rfl | cases hx
      · cases h
    · rename_i x q
      cases u with
      | frz ob z => exact absurd h (q ob z)
      | _ => rfl
theorem uni_exz {B F H : Hp} (fz : Exz F H) (fr : Sub B H) : Exz (uni B F) H := fun a u h => by
  unfold uni at h
  split at h
  · rename_i o q
    exact fz a u (q.trans h)
  · split at h
    · rename_i ob x q
      split at h
      · rename_i hx
        cases h
        exact .inr ⟨hx, ob, fr _ _ q⟩
      · cases h
    · exact .inl (fr _ _ h)
theorem uni_of {B F : Hp} {a : Addr} {u : HO} (h : F a = some u) : uni B F a = some u := by
  unfold uni
  rw [h]
theorem uni_sub {B F : Hp} : Sub F (uni B F) := fun _ _ h => uni_of h
theorem uni_gr {B F F' : Hp} (g : Gr B F F') : Sub (uni B F) (uni B F') := fun a u h => by
  unfold uni at h ⊢
  cases q : F a with
  | some o =>
    rw [q] at h
    rw [g.sub a o q]
    exact h
  | none =>
    rw [q] at h
    have hb : B a ≠ none := fun z => by
      rw [z] at h
      cases h
    rw [g.off a q hb]
    exact h
theorem wok_gr {K : PySem.W.Frag} {B F F' : Hp} (n : Nz F) (g : Gr B F F') {v : V} {w : W} (h : WOk K B F v w) : WOk K B F' v w := by
  cases w with
  | val d => exact Rp.mono g.sub.exz n d v h
  | vw d => exact Rp.mono (uni_gr g).exz (uni_nz n) d v h
/-- frozen data may be viewed -/
theorem wok_vw {K : PySem.W.Frag} {B F : Hp} (n : Nz F) {v : V} {d : D} (h : WOk K B F v (.val d)) : WOk K B F v (.vw d) := Rp.mono uni_sub.exz n d v h
theorem ndok_gr {K : PySem.W.Frag} {B F F' H : Hp} (n : Nz F) (g : Gr B F F') {a : Addr} {x : Nd} (h : NdOk K F H a x) : NdOk K F' H a x := by
  cases x with
  | lst ds => obtain ⟨xs, e, r⟩ := h; exact ⟨xs, e, RpL.mono g.sub.exz n _ _ r⟩
  | dic ds => obtain ⟨xs, e, r⟩ := h; exact ⟨xs, e, RpK.mono g.sub.exz n _ _ r⟩
  | dit ds => obtain ⟨xs, e, r⟩ := h; exact ⟨xs, e, RpT.mono g.sub.exz n _ _ r⟩
  | ldic o xs ds => obtain ⟨e, r⟩ := h; exact ⟨e, RpK.mono g.sub.exz n _ _ r⟩
  | ins C ds => obtain ⟨dx, xs, e, r⟩ := h; exact ⟨dx, xs, e, RpF.mono g.sub.exz n _ _ r⟩
  | xd ds => obtain ⟨xs, e, r⟩ := h; exact ⟨xs, e, RpF.mono g.sub.exz n _ _ r⟩
  | din w ds => obtain ⟨xs, e, r⟩ := h; exact ⟨xs, e, RpN.mono g.sub.exz n _ _ r⟩
/-- the address where a node stands is taken -/
theorem ndok_ne {K : PySem.W.Frag} {F H : Hp} {a : Addr} {x : Nd} (h : NdOk K F H a x) : H a ≠ none := by
  cases x with
  | lst ds => obtain ⟨xs, e, r⟩ := h; rw [e]; exact fun q => by cases q
  | dic ds => obtain ⟨xs, e, r⟩ := h; rw [e]; exact fun q => by cases q
  | dit ds => obtain ⟨xs, e, r⟩ := h; rw [e]; exact fun q => by cases q
  | ldic o xs ds => obtain ⟨e, r⟩ := h; rw [e]; exact fun q => by cases q
  | ins C ds => obtain ⟨dx, xs, e, r⟩ := h; rw [e]; exact fun q => by cases q
  | xd ds => obtain ⟨xs, e, r⟩ := h; rw [e]; exact fun q => by cases q
  | din w ds => obtain ⟨xs, e, r⟩ := h; rw [e]; exact fun q => by cases q
theorem ndok_at {K : PySem.W.Frag} {F H H' : Hp} {a : Addr} {x : Nd} (e : H' a = H a) (h : NdOk K F H a x) : NdOk K F H' a x := by
  cases x with
  | lst ds => obtain ⟨xs, q, r⟩ := h; exact ⟨xs, e.trans q, r⟩
  | dic ds => obtain ⟨xs, q, r⟩ := h; exact ⟨xs, e.trans q, r⟩
  | dit ds => obtain ⟨xs, q, r⟩ := h; exact ⟨xs, e.trans q, r⟩
  | ldic o xs ds => obtain ⟨q, r⟩ := h; exact ⟨e.trans q, r⟩
  | ins C ds => obtain ⟨dx, xs, q, r⟩ := h; exact ⟨dx, xs, e.trans q, r⟩
  | xd ds => obtain ⟨xs, q, r⟩ := h; exact ⟨xs, e.trans q, r⟩
  | din w ds => obtain ⟨xs, q, r⟩ := h; exact ⟨xs, e.trans q, r⟩
section
variable {K : PySem.W.Frag} {B F F' F0 : Hp} {ro : List (Option W)} {ka : Cells} {ta : List (V × W)} {sg : L2.St} {H : Hp}
/-- a new object is laid as frozen data -/
theorem EnF.lay (e : EnF K B F ro ka ta sg H) {p : Addr} {o : HO} (hp : H p = none) (hn : isfz o = false) : EnF K B (upd F p o) ro ka ta sg (upd H p o) ∧ Gr B F (upd F p o) := by
  have fp : F p = none := e.fz.free hp
  have bp : B p = none := e.fr.free hp
  have g : Gr B F (upd F p o) := ⟨Sub.new fp, fun a h1 h2 => by
    have ne : a ≠ p := fun q => h2 (q ▸ bp)
    rw [upd_ne ne]
    exact h1⟩
  refine ⟨⟨fun a u h => ?_, fun a u h => ?_, fun a u h => ?_, e.nd, fun q hq => ?_, e.ln, fun i w h => ?_, fun q hq => wok_gr e.nz g (e.tm q hq)⟩, g⟩
  · by_cases ha : a = p
    · subst ha; rw [upd_same] at h; cases h; exact hn
    · rw [upd_ne ha] at h; exact e.nz a u h
  · by_cases ha : a = p
    · subst ha; rw [upd_same] at h; cases h; exact .inl upd_same
    · rw [upd_ne ha] at h; exact e.fz.sub (Sub.new hp) a u h
  · have ha : a ≠ p := ne_of_none h bp
    rw [upd_ne ha]; exact e.fr a u h
  · obtain ⟨h1, h2, h3⟩ := e.ce q hq
    have nq : q.1 ≠ p := fun z => ndok_ne h3 (z ▸ hp)
    refine ⟨by rw [upd_ne nq]; exact h1, h2, ndok_at (upd_ne nq) (ndok_gr e.nz g h3)⟩
  · obtain ⟨v, h1, h2⟩ := e.sl i w h
    exact ⟨v, h1, wok_gr e.nz g h2⟩
/-- a new object is laid as a cell -/
theorem EnF.cell (e : EnF K B F ro ka ta sg H) {p : Addr} {o : HO} (hp : H p = none) {n : Nd} (hn : NdOk K F (upd H p o) p n) : EnF K B F ro (ka ++ [(p, n)]) ta sg (upd H p o) := by
  refine ⟨e.nz, e.fz.sub (Sub.new hp), e.fr.trans (Sub.new hp), ?_, fun q hq => ?_, e.ln, e.sl, e.tm⟩
  · rw [List.map_append, List.nodup_append]
    refine ⟨e.nd, by simp, fun a ha b hb => ?_⟩
    obtain ⟨q, hq, rfl⟩ := List.mem_map.mp ha
    simp at hb
    subst hb
    exact fun z => ndok_ne (e.ce q hq).2.2 (z ▸ hp)
  · rcases List.mem_append.mp hq with hq | hq
    · obtain ⟨h1, h2, h3⟩ := e.ce q hq
      have nq : q.1 ≠ p := fun z => ndok_ne h3 (z ▸ hp)
      exact ⟨h1, h2, ndok_at (upd_ne nq) h3⟩
    · simp at hq
      subst hq
      exact ⟨e.fz.free hp, e.fr.free hp, hn⟩
theorem EnF.push (e : EnF K B F ro ka ta sg H) {v : V} {w : W} (h : WOk K B F v w) : EnF K B F ro ka ((v, w) :: ta) sg H :=
  ⟨e.nz, e.fz, e.fr, e.nd, e.ce, e.ln, e.sl, fun p hp => (List.mem_cons.mp hp).elim (fun z => z ▸ h) (e.tm p)⟩
theorem EnF.held (e : EnF K B F ro ka ta sg H) {ta' : List (V × W)} (h : ∀ p ∈ ta', p ∈ ta) : EnF K B F ro ka ta' sg H :=
  ⟨e.nz, e.fz, e.fr, e.nd, e.ce, e.ln, e.sl, fun p hp => e.tm p (h p hp)⟩
/-- a slot is set -/
theorem EnF.set (e : EnF K B F ro ka ta sg H) {v : V} {w : W} (h : WOk K B F v w) (i : Nat) : EnF K B F (ro.set i (some w)) ka ta (sg.set i (some v)) H := by
  refine ⟨e.nz, e.fz, e.fr, e.nd, e.ce, by rw [List.length_set, List.length_set, e.ln], fun j w' hj => ?_, e.tm⟩
  by_cases hij : i = j
  · subst hij
    have hi : i < ro.length := by
      have := (List.getElem?_eq_some_iff.mp hj).1
      rwa [List.length_set] at this
    rw [List.getElem?_set_self hi] at hj
    cases hj
    exact ⟨v, by rw [List.getElem?_set_self (by rw [e.ln]; exact hi)], h⟩
  · rw [List.getElem?_set_ne hij] at hj ⊢
    exact e.sl j w' hj
/-- another frame: its slots -/
theorem EnF.frame (e : EnF K B F ro ka ta sg H) {ro' : List (Option W)} {sg' : L2.St} (hl : sg'.length = ro'.length) (h : ∀ (i : Nat) w, ro'[i]? = some (some w) → ∃ v, sg'[i]? = some (some v) ∧ WOk K B F v w) : EnF K B F ro' ka ta sg' H :=
  ⟨e.nz, e.fz, e.fr, e.nd, e.ce, hl, h, e.tm⟩
/-- cells in another order, some forgotten -/
theorem EnF.cells (e : EnF K B F ro ka ta sg H) {ka' : Cells} (hs : ka'.Sublist ka) : EnF K B F ro ka' ta sg H :=
  ⟨e.nz, e.fz, e.fr, (hs.map _).nodup e.nd, fun p hp => e.ce p (hs.subset hp), e.ln, e.sl, e.tm⟩
theorem EnF.perm (e : EnF K B F ro ka ta sg H) {ka' : Cells} (hs : ka'.Perm ka) : EnF K B F ro ka' ta sg H :=
  ⟨e.nz, e.fz, e.fr, (hs.map _).nodup_iff.mpr e.nd, fun p hp => e.ce p (hs.subset hp), e.ln, e.sl, e.tm⟩
/-- a cell is written -/
theorem EnF.write (e : EnF K B F ro ka ta sg H) {j : Nat} {p : Addr} {n n' : Nd} {o : HO} (hj : ka[j]? = some (p, n)) (hn : NdOk K F (upd H p o) p n') : EnF K B F ro (ka.set j (p, n')) ta sg (upd H p o) := by
  have hjl := (List.getElem?_eq_some_iff.mp hj).1
  have hm : (p, n) ∈ ka := List.mem_of_getElem? hj
  obtain ⟨fp, bp, _⟩ := e.ce _ hm
  have em : (ka.set j (p, n')).map (·.1) = ka.map (·.1) := by
    apply List.ext_getElem?
    intro i
    rw [List.getElem?_map, List.getElem?_map]
    by_cases hij : j = i
    · subst hij
      rw [List.getElem?_set_self hjl, hj]
      rfl
    · rw [List.getElem?_set_ne hij]
  refine ⟨e.nz, fun a u h => ?_, fun a u h => ?_, by rw [em]; exact e.nd, fun q hq => ?_, e.ln, e.sl, e.tm⟩
  · have ha : a ≠ p := ne_of_none h fp
    rcases e.fz a u h with q | ⟨k, ob, q⟩
    · exact .inl (by rw [upd_ne ha]; exact q)
    · exact .inr ⟨k, ob, by rw [upd_ne ha]; exact q⟩
  · have ha : a ≠ p := ne_of_none h bp
    rw [upd_ne ha]
    exact e.fr a u h
  · obtain ⟨i, hi⟩ := List.getElem?_of_mem hq
    by_cases hij : j = i
    · subst hij
      rw [List.getElem?_set_self hjl] at hi
      cases hi
      exact ⟨fp, bp, hn⟩
    · rw [List.getElem?_set_ne hij] at hi
      obtain ⟨h1, h2, h3⟩ := e.ce q (List.mem_of_getElem? hi)
      have nq : q.1 ≠ p := fun z => by
        have h4 : (ka.map (·.1))[i]? = some p := by rw [List.getElem?_map, hi]; simp [z]
        have h5 : (ka.map (·.1))[j]? = some p := by rw [List.getElem?_map, hj]; rfl
        obtain ⟨l1, e1⟩ := List.getElem?_eq_some_iff.mp h4
        obtain ⟨l2, e2⟩ := List.getElem?_eq_some_iff.mp h5
        exact hij ((List.getElem_inj e.nd).mp (e2.trans e1.symm))
      exact ⟨h1, h2, ndok_at (upd_ne nq) h3⟩
end
end DL

/-! DB: what expressions evaluate to, by data (own work). -/
namespace DL
open PySem L2

/-! ### judgements -/
section
variable (K : PySem.W.Frag)
abbrev Ro := List (Option W)
def EvD (te : TE) (ro : Ro) (ka : Cells) (w : W) (ka' : Cells) : Prop := ∀ B F0 ta sg H (Q : VK), En K B F0 ro ka ta sg H → (∀ v H', En K B F0 ro ka' ((v, w) :: ta) sg H' → Q v H') → te sg H Q
/-- a new cell -/
def EvN (te : TE) (ro : Ro) (ka : Cells) (n : Nd) (ka' : Cells) : Prop := ∀ B F0 ta sg H (Q : VK), En K B F0 ro ka ta sg H → (∀ a H', En K B F0 ro (ka' ++ [(a, n)]) ta sg H' → Q (.ref a) H') → te sg H Q
def EvT (tt : TT) (ro : Ro) (ka : Cells) (b : Bool) (ka' : Cells) : Prop := ∀ B F0 ta sg H (Q : Bool → Hp → Prop), En K B F0 ro ka ta sg H → (∀ H', En K B F0 ro ka' ta sg H' → Q b H') → tt sg H Q
def EvA (tr : TA) (ro : Ro) (ka : Cells) (ws : List W) (ka' : Cells) : Prop := ∀ B F0 ta sg H (Q : List V → Hp → Prop), En K B F0 ro ka ta sg H → (∀ vs H', vs.length = ws.length → En K B F0 ro ka' (vs.zip ws ++ ta) sg H' → Q vs H') → tr sg H Q
/-- a two-place operation, a one-place one -/
def RvD (r : R2) (ka : Cells) (x y z : W) : Prop := ∀ B F0 ro ta sg H u v (Q : VK), En K B F0 ro ka ta sg H → (u, x) ∈ ta → (v, y) ∈ ta → (∀ t H', En K B F0 ro ka ((t, z) :: ta) sg H' → Q t H') → r u v H Q
def RvN (r : R2) (ka : Cells) (x y : W) (n : Nd) : Prop := ∀ B F0 ro ta sg H u v (Q : VK), En K B F0 ro ka ta sg H → (u, x) ∈ ta → (v, y) ∈ ta → (∀ a H', En K B F0 ro (ka ++ [(a, n)]) ta sg H' → Q (.ref a) H') → r u v H Q
/-- a call by values -/
def RcD (r : List V → Hp → VK → Prop) (ka : Cells) (xs : List W) (z : W) : Prop := ∀ B F0 ro ta sg H us (Q : VK), En K B F0 ro ka ta sg H → us.length = xs.length → (∀ p ∈ us.zip xs, p ∈ ta) → (∀ t H', En K B F0 ro ka ((t, z) :: ta) sg H' → Q t H') → r us H Q
def RcN (r : List V → Hp → VK → Prop) (ka : Cells) (xs : List W) (n : Nd) : Prop := ∀ B F0 ro ta sg H us (Q : VK), En K B F0 ro ka ta sg H → us.length = xs.length → (∀ p ∈ us.zip xs, p ∈ ta) → (∀ a H', En K B F0 ro (ka ++ [(a, n)]) ta sg H' → Q (.ref a) H') → r us H Q
/-- a part of a slice -/
def EvO (to : TO) (ro : Ro) (ka : Cells) (o : Option Int) (ka' : Cells) : Prop := ∀ B F0 ta sg H (Q : Option Int → Hp → Prop), En K B F0 ro ka ta sg H → (∀ H', En K B F0 ro ka' ta sg H' → Q o H') → to sg H Q
end

section
variable {K : PySem.W.Frag} {B F0 : Hp} {ro : Ro} {ka k1 k2 k3 : Cells} {ta : List (V × W)} {sg : L2.St} {H : Hp} {te tf tg : TE} {tt tu : TT} {tr : TA} {w x y z : W} {n : Nd} {r : R2}
theorem En.held (e : En K B F0 ro ka ta sg H) {ta' : List (V × W)} (h : ∀ p ∈ ta', p ∈ ta) : En K B F0 ro ka ta' sg H :=
  let ⟨F, g, q⟩ := e
  ⟨F, g, q.held h⟩
theorem En.pop {p : V × W} (e : En K B F0 ro ka (p :: ta) sg H) : En K B F0 ro ka ta sg H := e.held fun _ h => List.mem_cons_of_mem _ h
/-- what data says of its value -/
theorem En.push_imm (e : En K B F0 ro ka ta sg H) {v : V} {w : W} (h : ∀ F, WOk K B F v w) : En K B F0 ro ka ((v, w) :: ta) sg H :=
  let ⟨F, g, q⟩ := e
  ⟨F, g, q.push (h F)⟩
theorem En.tm_int (e : En K B F0 ro ka ta sg H) {v : V} {i : Int} (h : (v, W.val (.int i)) ∈ ta) : v = .int i := let ⟨_, _, q⟩ := e; q.tm _ h
theorem En.tm_str (e : En K B F0 ro ka ta sg H) {v : V} {i : Str} (h : (v, W.val (.str i)) ∈ ta) : v = .str i := let ⟨_, _, q⟩ := e; q.tm _ h
theorem En.tm_bl (e : En K B F0 ro ka ta sg H) {v : V} {i : Bool} (h : (v, W.val (.bl i)) ∈ ta) : v = .bl i := let ⟨_, _, q⟩ := e; q.tm _ h
theorem En.tm_non (e : En K B F0 ro ka ta sg H) {v : V} (h : (v, W.val .non) ∈ ta) : v = .non := let ⟨_, _, q⟩ := e; q.tm _ h
theorem En.tm_adr (e : En K B F0 ro ka ta sg H) {v : V} {a : Addr} (h : (v, W.val (.adr a)) ∈ ta) : v = .ref a := let ⟨_, _, q⟩ := e; q.tm _ h
theorem En.tm_ty (e : En K B F0 ro ka ta sg H) {v : V} {i : String} (h : (v, W.val (.ty i)) ∈ ta) : v = .ty i := let ⟨_, _, q⟩ := e; q.tm _ h

/-- data that is the value itself -/
def imm : D → Bool
  | .non => true | .bl _ => true | .int _ => true | .str _ => true | .ty _ => true | .adr _ => true
  | _ => false
theorem imm_any {F G : Hp} : ∀ {d : D} {v : V}, imm d = true → Rp K F d v → Rp K G d v
  | .non, _, _, h => h
  | .bl _, _, _, h => h
  | .int _, _, _, h => h
  | .str _, _, _, h => h
  | .ty _, _, _, h => h
  | .adr _, _, _, h => h
/-- a part of something viewed, of something frozen -/
def part (b : Bool) (d : D) : W := if b && !imm d then .vw d else .val d
theorem wok_part {B F : Hp} {v : V} {d : D} (b : Bool) (h : Rp K (if b then uni B F else F) d v) : WOk K B F v (part b d) := by
  unfold part
  cases b with
  | false => exact h
  | true =>
    cases q : imm d with
    | true => exact imm_any q h
    | false => exact h
/-! ### names, constants -/
theorem ev_var {i : Nat} (h : ro[i]? = some (some w)) : EvD K (tVar i) ro ka w ka := fun B F0 ta sg H Q e q => by
  obtain ⟨F, g, e⟩ := e
  obtain ⟨v, h1, h2⟩ := e.sl i w h
  exact ⟨v, h1, q v H ⟨F, g, e.push h2⟩⟩
theorem ev_int {i : Int} : EvD K (tC (.int i)) ro ka (.val (.int i)) ka := fun B F0 ta sg H Q e q => q _ _ (e.push_imm fun _ => rfl)
theorem ev_str {i : Str} : EvD K (tC (.str i)) ro ka (.val (.str i)) ka := fun B F0 ta sg H Q e q => q _ _ (e.push_imm fun _ => rfl)
theorem ev_bl {i : Bool} : EvD K (tC (.bl i)) ro ka (.val (.bl i)) ka := fun B F0 ta sg H Q e q => q _ _ (e.push_imm fun _ => rfl)
theorem ev_non : EvD K (tC .non) ro ka (.val .non) ka := fun B F0 ta sg H Q e q => q _ _ (e.push_imm fun _ => rfl)
theorem ev_ty {a : String} : EvD K (tC (.ty a)) ro ka (.val (.ty a)) ka := fun B F0 ta sg H Q e q => q _ _ (e.push_imm fun _ => rfl)

/-! ### operations -/
theorem ev_op (ha : EvD K te ro ka x k1) (hb : EvD K tf ro k1 y k2) (hr : RvD K r k2 x y z) : EvD K (tOp r te tf) ro ka z k2 := fun B F0 ta sg H Q e q =>
  ha B F0 ta sg H _ e fun u H1 e1 => hb B F0 _ sg H1 _ e1 fun v H2 e2 => hr B F0 ro _ sg H2 u v Q e2 (List.mem_cons_of_mem _ List.mem_cons_self) List.mem_cons_self fun t H3 e3 =>
    q t H3 (e3.held fun p hp => by
      rcases List.mem_cons.mp hp with rfl | hp
      · exact List.mem_cons_self
      · exact List.mem_cons_of_mem _ (List.mem_cons_of_mem _ (List.mem_cons_of_mem _ hp)))
theorem evn_op (ha : EvD K te ro ka x k1) (hb : EvD K tf ro k1 y k2) (hr : RvN K r k2 x y n) : EvN K (tOp r te tf) ro ka n k2 := fun B F0 ta sg H Q e q =>
  ha B F0 ta sg H _ e fun u H1 e1 => hb B F0 _ sg H1 _ e1 fun v H2 e2 => hr B F0 ro _ sg H2 u v Q e2 (List.mem_cons_of_mem _ List.mem_cons_self) List.mem_cons_self fun t H3 e3 =>
    q t H3 (e3.held fun p hp => List.mem_cons_of_mem _ (List.mem_cons_of_mem _ hp))
theorem ea_nil : EvA K tNil ro ka [] ka := fun B F0 ta sg H Q e q => q [] H rfl e
theorem ea_cons (ha : EvD K te ro ka x k1) {ws : List W} (hr : EvA K tr ro k1 ws k2) : EvA K (tCons te tr) ro ka (x :: ws) k2 := fun B F0 ta sg H Q e q =>
  ha B F0 ta sg H _ e fun u H1 e1 => hr B F0 _ sg H1 _ e1 fun vs H2 hl e2 => q (u :: vs) H2 (by rw [List.length_cons, List.length_cons, hl]) (e2.held fun p hp => by
    have hp' : p ∈ (u, x) :: (vs.zip ws ++ ta) := hp
    rcases List.mem_cons.mp hp' with rfl | h
    · exact List.mem_append_right _ List.mem_cons_self
    · rcases List.mem_append.mp h with h | h
      · exact List.mem_append_left _ h
      · exact List.mem_append_right _ (List.mem_cons_of_mem _ h))
theorem ev_cb {r : List V → Hp → VK → Prop} {ws : List W} (ha : EvA K tr ro ka ws k1) (hr : RcD K r k1 ws z) : EvD K (tCB r tr) ro ka z k1 := fun B F0 ta sg H Q e q =>
  ha B F0 ta sg H _ e fun us H1 hl e1 => hr B F0 ro _ sg H1 us Q e1 hl (fun p hp => List.mem_append_left _ hp) fun t H2 e2 => q t H2 (e2.held fun p hp => by
    rcases List.mem_cons.mp hp with rfl | hp
    · exact List.mem_cons_self
    · exact List.mem_cons_of_mem _ (List.mem_append_right _ hp))
theorem evn_cb {r : List V → Hp → VK → Prop} {ws : List W} (ha : EvA K tr ro ka ws k1) (hr : RcN K r k1 ws n) : EvN K (tCB r tr) ro ka n k1 := fun B F0 ta sg H Q e q =>
  ha B F0 ta sg H _ e fun us H1 hl e1 => hr B F0 ro _ sg H1 us Q e1 hl (fun p hp => List.mem_append_left _ hp) fun t H2 e2 => q t H2 (e2.held fun p hp => List.mem_append_right _ hp)
/-- another of the ways of an operation -/
theorem rvd_l {r' : R2} (h : RvD K r ka x y z) : RvD K (fun x y H Q => r x y H Q ∨ r' x y H Q) ka x y z := fun B F0 ro ta sg H u v Q e h1 h2 q => .inl (h B F0 ro ta sg H u v Q e h1 h2 q)
theorem rvd_r {r' : R2} (h : RvD K r' ka x y z) : RvD K (fun x y H Q => r x y H Q ∨ r' x y H Q) ka x y z := fun B F0 ro ta sg H u v Q e h1 h2 q => .inr (h B F0 ro ta sg H u v Q e h1 h2 q)
theorem rvn_l {r' : R2} (h : RvN K r ka x y n) : RvN K (fun x y H Q => r x y H Q ∨ r' x y H Q) ka x y n := fun B F0 ro ta sg H u v Q e h1 h2 q => .inl (h B F0 ro ta sg H u v Q e h1 h2 q)
theorem rvn_r {r' : R2} (h : RvN K r' ka x y n) : RvN K (fun x y H Q => r x y H Q ∨ r' x y H Q) ka x y n := fun B F0 ro ta sg H u v Q e h1 h2 q => .inr (h B F0 ro ta sg H u v Q e h1 h2 q)
theorem rcd_l {r r' : List V → Hp → VK → Prop} {xs : List W} (h : RcD K r ka xs z) : RcD K (fun x H Q => r x H Q ∨ r' x H Q) ka xs z := fun B F0 ro ta sg H u Q e h1 h2 q => .inl (h B F0 ro ta sg H u Q e h1 h2 q)
theorem rcd_r {r r' : List V → Hp → VK → Prop} {xs : List W} (h : RcD K r' ka xs z) : RcD K (fun x H Q => r x H Q ∨ r' x H Q) ka xs z := fun B F0 ro ta sg H u Q e h1 h2 q => .inr (h B F0 ro ta sg H u Q e h1 h2 q)
/-! ### a new cell, frozen -/
theorem En.freeze_l (e : En K B F0 ro (ka ++ [(a, .lst ds)]) ta sg H) : En K B F0 ro ka ((.ref a, .val (.lst ds)) :: ta) sg H := by
  obtain ⟨F, g, e⟩ := e
  obtain ⟨fa, ba, xs, ha, rl⟩ := e.ce (a, .lst ds) (by simp)
  have gg : Gr B F (upd F a (.lst xs)) := ⟨Sub.new fa, fun b h1 h2 => by
    have ne : b ≠ a := fun q => h2 (q ▸ ba)
    rw [upd_ne ne]
    exact h1⟩
  have nd2 := e.nd
  rw [List.map_append, List.nodup_append] at nd2
  refine ⟨upd F a (.lst xs), g.trans gg, ⟨fun b u h => ?_, fun b u h => ?_, e.fr, nd2.1, fun q hq => ?_, e.ln, fun i w h => ?_, fun q hq => ?_⟩⟩
  · by_cases hb : b = a
    · subst hb; rw [upd_same] at h; cases h; rfl
    · rw [upd_ne hb] at h; exact e.nz b u h
  · by_cases hb : b = a
    · subst hb; rw [upd_same] at h; cases h; exact .inl ha
    · rw [upd_ne hb] at h; exact e.fz b u h
  · obtain ⟨h1, h2, h3⟩ := e.ce q (List.mem_append_left _ hq)
    have nq : q.1 ≠ a := fun z => nd2.2.2 q.1 (List.mem_map.mpr ⟨q, hq, rfl⟩) a (by simp) z
    exact ⟨by rw [upd_ne nq]; exact h1, h2, ndok_gr e.nz gg h3⟩
  · obtain ⟨v, h1, h2⟩ := e.sl i w h
    exact ⟨v, h1, wok_gr e.nz gg h2⟩
  · rcases List.mem_cons.mp hq with rfl | hq
    · exact ⟨a, xs, rfl, .inl upd_same, RpL.mono gg.sub.exz e.nz _ _ rl⟩
    · exact wok_gr e.nz gg (e.tm q hq)
theorem En.freeze_k (e : En K B F0 ro (ka ++ [(a, .dic ds)]) ta sg H) : En K B F0 ro ka ((.ref a, .val (.dic ds)) :: ta) sg H := by
  obtain ⟨F, g, e⟩ := e
  obtain ⟨fa, ba, xs, ha, rl⟩ := e.ce (a, .dic ds) (by simp)
  have gg : Gr B F (upd F a (.dK xs)) := ⟨Sub.new fa, fun b h1 h2 => by
    have ne : b ≠ a := fun q => h2 (q ▸ ba)
    rw [upd_ne ne]
    exact h1⟩
  have nd2 := e.nd
  rw [List.map_append, List.nodup_append] at nd2
  refine ⟨upd F a (.dK xs), g.trans gg, ⟨fun b u h => ?_, fun b u h => ?_, e.fr, nd2.1, fun q hq => ?_, e.ln, fun i w h => ?_, fun q hq => ?_⟩⟩
  · by_cases hb : b = a
    · subst hb; rw [upd_same] at h; cases h; rfl
    · rw [upd_ne hb] at h; exact e.nz b u h
  · by_cases hb : b = a
    · subst hb; rw [upd_same] at h; cases h; exact .inl ha
    · rw [upd_ne hb] at h; exact e.fz b u h
  · obtain ⟨h1, h2, h3⟩ := e.ce q (List.mem_append_left _ hq)
    have nq : q.1 ≠ a := fun z => nd2.2.2 q.1 (List.mem_map.mpr ⟨q, hq, rfl⟩) a (by simp) z
    exact ⟨by rw [upd_ne nq]; exact h1, h2, ndok_gr e.nz gg h3⟩
  · obtain ⟨v, h1, h2⟩ := e.sl i w h
    exact ⟨v, h1, wok_gr e.nz gg h2⟩
  · rcases List.mem_cons.mp hq with rfl | hq
    · exact ⟨a, xs, rfl, .inl upd_same, RpK.mono gg.sub.exz e.nz _ _ rl⟩
    · exact wok_gr e.nz gg (e.tm q hq)
theorem EvN.lst {ds : List D} (h : EvN K te ro ka (.lst ds) k1) : EvD K te ro ka (.val (.lst ds)) k1 := fun B F0 ta sg H Q e q => h B F0 ta sg H Q e fun a H1 e1 => q _ _ e1.freeze_l
theorem EvN.dic {ds : List (Key × D)} (h : EvN K te ro ka (.dic ds) k1) : EvD K te ro ka (.val (.dic ds)) k1 := fun B F0 ta sg H Q e q => h B F0 ta sg H Q e fun a H1 e1 => q _ _ e1.freeze_k

/-! ### tests -/
theorem et_test {b : Bool} (h : EvD K te ro ka (.val (.bl b)) k1) : EvT K (tTest te) ro ka b k1 := fun B F0 ta sg H Q e q => h B F0 ta sg H _ e fun v H1 e1 => ⟨b, e1.tm_bl List.mem_cons_self, q H1 e1.pop⟩
theorem et_B {b : Bool} (h : EvD K te ro ka (.val (.bl b)) k1) : EvT K (tB te) ro ka b k1 := fun B F0 ta sg H Q e q => h B F0 ta sg H _ e fun v H1 e1 => ⟨b, e1.tm_bl List.mem_cons_self, q H1 e1.pop⟩
theorem et_not {a : Bool} (h : EvT K tt ro ka a k1) : EvT K (tNot tt) ro ka (!a) k1 := fun B F0 ta sg H Q e q => h B F0 ta sg H _ e fun H1 e1 => q H1 e1
/-- and, or: k2 is reached in any case -/
theorem et_and {a b : Bool} (h1 : EvT K tt ro ka a k1) (h2 : a = true → EvT K tu ro k1 b k1) : EvT K (tAnd tt tu) ro ka (a && b) k1 := fun B F0 ta sg H Q e q => h1 B F0 ta sg H _ e fun H1 e1 => by
  cases a with
  | true => exact h2 rfl B F0 ta sg H1 Q e1 q
  | false => exact q H1 e1
theorem et_or {a b : Bool} (h1 : EvT K tt ro ka a k1) (h2 : a = false → EvT K tu ro k1 b k1) : EvT K (tOr tt tu) ro ka (a || b) k1 := fun B F0 ta sg H Q e q => h1 B F0 ta sg H _ e fun H1 e1 => by
  cases a with
  | true => exact q H1 e1
  | false => exact h2 rfl B F0 ta sg H1 Q e1 q
theorem et_and1 {b : Bool} (h1 : EvT K tt ro ka true k1) (h2 : EvT K tu ro k1 b k2) : EvT K (tAnd tt tu) ro ka b k2 := fun B F0 ta sg H Q e q => h1 B F0 ta sg H _ e fun H1 e1 => h2 B F0 ta sg H1 Q e1 q
theorem et_and0 (h1 : EvT K tt ro ka false k1) : EvT K (tAnd tt tu) ro ka false k1 := fun B F0 ta sg H Q e q => h1 B F0 ta sg H _ e fun H1 e1 => q H1 e1
theorem et_or0 {b : Bool} (h1 : EvT K tt ro ka false k1) (h2 : EvT K tu ro k1 b k2) : EvT K (tOr tt tu) ro ka b k2 := fun B F0 ta sg H Q e q => h1 B F0 ta sg H _ e fun H1 e1 => h2 B F0 ta sg H1 Q e1 q
theorem et_or1 (h1 : EvT K tt ro ka true k1) : EvT K (tOr tt tu) ro ka true k1 := fun B F0 ta sg H Q e q => h1 B F0 ta sg H _ e fun H1 e1 => q H1 e1
theorem EvT.to {a b : Bool} (h : EvT K tt ro ka a k1) (e : a = b) : EvT K tt ro ka b k1 := e ▸ h
theorem EvD.to {w' : W} (h : EvD K te ro ka w k1) (e : w = w') : EvD K te ro ka w' k1 := e ▸ h
theorem EvD.imm {d : D} (h : EvD K te ro ka (.vw d) k1) (i : imm d = true) : EvD K te ro ka (.val d) k1 := fun B F0 ta sg H Q e q => h B F0 ta sg H _ e fun v H1 e1 => q v H1 (by
  obtain ⟨F, g, e1⟩ := e1
  have h1 := e1.tm _ List.mem_cons_self
  exact ⟨F, g, (e1.held (ta' := ta) fun p hp => List.mem_cons_of_mem _ hp).push (imm_any i h1)⟩)
theorem EvD.vw {d : D} (h : EvD K te ro ka (.val d) k1) : EvD K te ro ka (.vw d) k1 := fun B F0 ta sg H Q e q => h B F0 ta sg H _ e fun v H1 e1 => q v H1 (by
  obtain ⟨F, g, e1⟩ := e1
  exact ⟨F, g, (e1.held (ta' := ta) fun p hp => List.mem_cons_of_mem _ hp).push (wok_vw e1.nz (e1.tm _ List.mem_cons_self))⟩)
theorem ev_orV {a b : Bool} (h1 : EvD K te ro ka (.val (.bl a)) k1) (h2 : a = false → EvD K tf ro k1 (.val (.bl b)) k1) : EvD K (tOrV te tf) ro ka (.val (.bl (a || b))) k1 := fun B F0 ta sg H Q e q => h1 B F0 ta sg H _ e fun v H1 e1 => ⟨a, e1.tm_bl List.mem_cons_self, by
  have hv := e1.tm_bl List.mem_cons_self
  cases a with
  | true => subst hv; exact q _ H1 e1
  | false => exact h2 rfl B F0 ta sg H1 Q e1.pop q⟩
theorem ev_andV1 (h1 : EvD K te ro ka (.val (.bl true)) k1) (h2 : EvD K tf ro k1 w k2) : EvD K (tAndV te tf) ro ka w k2 := fun B F0 ta sg H Q e q => h1 B F0 ta sg H _ e fun v H1 e1 => ⟨true, e1.tm_bl List.mem_cons_self, h2 B F0 ta sg H1 Q e1.pop q⟩
theorem ev_andV0 (h1 : EvD K te ro ka (.val (.bl false)) k1) : EvD K (tAndV te tf) ro ka (.val (.bl false)) k1 := fun B F0 ta sg H Q e q => h1 B F0 ta sg H _ e fun v H1 e1 => ⟨false, e1.tm_bl List.mem_cons_self, by
  have hv := e1.tm_bl List.mem_cons_self
  subst hv
  exact q _ H1 e1⟩
theorem ev_ifT (h : EvT K tt ro ka true k1) (h1 : EvD K te ro k1 w k2) : EvD K (tIf tt te tf) ro ka w k2 := fun B F0 ta sg H Q e q => h B F0 ta sg H _ e fun H1 e1 => h1 B F0 ta sg H1 Q e1 q
theorem ev_ifF (h : EvT K tt ro ka false k1) (h1 : EvD K tf ro k1 w k2) : EvD K (tIf tt te tf) ro ka w k2 := fun B F0 ta sg H Q e q => h B F0 ta sg H _ e fun H1 e1 => h1 B F0 ta sg H1 Q e1 q
theorem ev_if {b : Bool} (h : EvT K tt ro ka b k1) (h1 : b = true → EvD K te ro k1 w k2) (h2 : b = false → EvD K tf ro k1 w k2) : EvD K (tIf tt te tf) ro ka w k2 := by
  cases b with
  | true => exact ev_ifT h (h1 rfl)
  | false => exact ev_ifF h (h2 rfl)

/-! ### slices' parts -/
theorem eo_none : EvO K tNoPart ro ka none ka := fun B F0 ta sg H Q e q => q H e
theorem eo_some {i : Int} (h : EvD K te ro ka (.val (.int i)) k1) : EvO K (tPart te) ro ka (some i) k1 := fun B F0 ta sg H Q e q => h B F0 ta sg H _ e fun v H1 e1 => ⟨i, e1.tm_int List.mem_cons_self, q H1 e1.pop⟩

/-! ### tuples, lists displayed -/
theorem rpl_of {B F : Hp} : ∀ {vs : List V} {ds : List D}, vs.length = ds.length → (∀ p ∈ vs.zip (ds.map W.val), WOk K B F p.1 p.2) → RpL K F ds vs
  | [], [], _, _ => rfl
  | [], _ :: _, h, _ => by cases h
  | _ :: _, [], h, _ => by cases h
  | v :: vs, d :: ds, hl, h => ⟨v, vs, rfl, h (v, .val d) List.mem_cons_self, rpl_of (by simpa using hl) fun p hp => h p (List.mem_cons_of_mem _ hp)⟩
theorem rpl_len {F : Hp} : ∀ {ds : List D} {vs : List V}, RpL K F ds vs → vs.length = ds.length
  | [], vs, h => by rw [show vs = [] from h]; rfl
  | d :: ds, vs, h => by
    obtain ⟨x, ys, rfl, _, h2⟩ := h
    rw [List.length_cons, List.length_cons, rpl_len h2]
theorem rpl_get {F : Hp} : ∀ {ds : List D} {vs : List V} {i : Nat} {d : D}, RpL K F ds vs → ds[i]? = some d → ∃ v, vs[i]? = some v ∧ Rp K F d v
  | [], _, _, _, _, e => by simp at e
  | d0 :: ds, vs, 0, d, h, e => by
    obtain ⟨x, ys, rfl, h1, _⟩ := h
    cases e
    exact ⟨x, rfl, h1⟩
  | d0 :: ds, vs, i + 1, d, h, e => by
    obtain ⟨x, ys, rfl, _, h2⟩ := h
    obtain ⟨v, q1, q2⟩ := rpl_get (i := i) (d := d) h2 (by simpa using e)
    exact ⟨v, by simpa using q1, q2⟩
theorem rpl_app {F : Hp} : ∀ {ds es : List D} {xs ys : List V}, RpL K F ds xs → RpL K F es ys → RpL K F (ds ++ es) (xs ++ ys)
  | [], es, xs, ys, h, h2 => by rw [show xs = [] from h]; exact h2
  | d :: ds, es, xs, ys, h, h2 => by
    obtain ⟨x, zs, rfl, h1, h3⟩ := h
    exact ⟨x, zs ++ ys, rfl, h1, rpl_app h3 h2⟩
theorem rpl_drop {F : Hp} : ∀ (n : Nat) {ds : List D} {xs : List V}, RpL K F ds xs → RpL K F (ds.drop n) (xs.drop n)
  | 0, _, _, h => h
  | n + 1, [], xs, h => by rw [show xs = [] from h]; rfl
  | n + 1, d :: ds, xs, h => by
    obtain ⟨x, ys, rfl, _, h2⟩ := h
    exact rpl_drop n h2
theorem rpl_take {F : Hp} : ∀ (n : Nat) {ds : List D} {xs : List V}, RpL K F ds xs → RpL K F (ds.take n) (xs.take n)
  | 0, _, _, _ => rfl
  | n + 1, [], xs, h => by rw [show xs = [] from h]; rfl
  | n + 1, d :: ds, xs, h => by
    obtain ⟨x, ys, rfl, h1, h2⟩ := h
    exact ⟨x, ys.take n, rfl, h1, rpl_take n h2⟩
theorem rpl_set {F : Hp} : ∀ {ds : List D} {xs : List V} (i : Nat) {d : D} {v : V}, RpL K F ds xs → Rp K F d v → RpL K F (ds.set i d) (xs.set i v)
  | [], xs, _, _, _, h, _ => by rw [show xs = [] from h]; rfl
  | d :: ds, xs, 0, _, _, h, q => by
    obtain ⟨x, ys, rfl, h1, h2⟩ := h
    exact ⟨_, ys, rfl, q, h2⟩
  | d :: ds, xs, i + 1, _, _, h, q => by
    obtain ⟨x, ys, rfl, h1, h2⟩ := h
    exact ⟨x, _, rfl, h1, rpl_set i h2 q⟩
theorem rpl_repl {F : Hp} {ds : List D} {xs : List V} (h : RpL K F ds xs) : ∀ n : Nat, RpL K F (List.replicate n ds).flatten (List.replicate n xs).flatten
  | 0 => rfl
  | n + 1 => by
    rw [List.replicate_succ, List.replicate_succ, List.flatten_cons, List.flatten_cons]
    exact rpl_app h (rpl_repl h n)
theorem ev_tup {ds : List D} (h : EvA K tr ro ka (ds.map W.val) k1) (hl : ds.length ≤ 100000 := by decide) : EvD K (tTup tr) ro ka (.val (.tup ds)) k1 := fun B F0 ta sg H Q e q => h B F0 ta sg H _ e fun vs H1 hvl e1 => by
  rw [List.length_map] at hvl
  refine ⟨Nat.le_trans (by rw [hvl]; exact hl) (by decide : 100000 ≤ sizeLine), fun p hp => q _ _ ?_⟩
  obtain ⟨F, g, e1⟩ := e1
  obtain ⟨e2, g2⟩ := e1.lay (o := .tup vs) hp rfl
  refine ⟨_, g.trans g2, (e2.held (ta' := ta) fun p hp => List.mem_append_right _ hp).push ⟨p, vs, rfl, .inl (.inl upd_same), ?_⟩⟩
  exact RpL.mono g2.sub.exz e1.nz _ _ (rpl_of hvl fun z hz => e1.tm z (List.mem_append_left _ hz))
theorem evn_lst {ds : List D} (h : EvA K tr ro ka (ds.map W.val) k1) (hl : ds.length ≤ 100000 := by decide) : EvN K (tLst tr) ro ka (.lst ds) k1 := fun B F0 ta sg H Q e q => h B F0 ta sg H _ e fun vs H1 hvl e1 => by
  rw [List.length_map] at hvl
  refine ⟨Nat.le_trans (by rw [hvl]; exact hl) (by decide : 100000 ≤ sizeLine), fun p hp => q _ _ ?_⟩
  obtain ⟨F, g, e1⟩ := e1
  refine ⟨F, g, (e1.cell (o := .lst vs) hp (n := .lst ds) ⟨vs, upd_same, rpl_of hvl fun z hz => e1.tm z (List.mem_append_left _ hz)⟩).held fun p hp => List.mem_append_right _ hp⟩
end
end DL

/-! DC: operations by data (own work). -/
namespace DL
open PySem L2

/-! ### universal operators: each of the ways that this text takes -/
abbrev rAddI : R2 := rI0 fun i j => .int (i + j)
abbrev rAddS : R2 := fun x y H Q => ∃ i j, x = .str i ∧ y = .str j ∧ i.length + j.length ≤ sizeLine ∧ Q (.str (i ++ j)) H
/-- list + list, locked or not -/
def rCatR : R2 := fun x y H Q => ∃ l b xs zs, x = .ref l ∧ y = .ref b ∧ Rd H l (.lst xs) ∧ Rd H b (.lst zs) ∧ xs.length + zs.length ≤ sizeLine ∧ ∀ p, H p = none → Q (.ref p) (upd H p (.lst (xs ++ zs)))
section
variable {X : Cx}
theorem op_catR : OpR X (binaryOp .Add) rCatR := fun pins s sg H x y v u Q I rx ry h => by
  obtain ⟨l, b, xs, zs, ex, ey, h1, h2, hz, q⟩ := h
  subst ex ey
  cases rx
  cases ry
  have ⟨_, us, _, r, e⟩ := h1.ok I.hok
  have ⟨_, ws, _, r2, e2⟩ := h2.ok I.hok
  have lens : us.length + ws.length ≤ sizeLine := by rw [← r.length, ← r2.length]; exact hz
  refine PySem.P.add_list e e2 ?_ (show us.toArray.size + ws.toArray.size ≤ _ by rw [us.size_toArray, ws.size_toArray]; exact lens)
  rw [List.append_toArray]
  exact ⟨.ref _, _, I.lnew (t' := s.toks) (r.append r2) (xs.length_append ▸ hz), rfl, q _ I.fresh⟩
def rAddU (K : PySem.W.Frag) : R2 := fun x y H Q => rAddI x y H Q ∨ (fun x y H Q => rAddS x y H Q ∨ (fun x y H Q => rCatR x y H Q ∨ rCatA K x y H Q) x y H Q) x y H Q
theorem op_addU : OpR X (binaryOp .Add) (rAddU X.K) := op_add.or (op_add_str.or (op_catR.or op_catA))
/-- s * n for texts -/
abbrev rSubI : R2 := rI0 fun i j => .int (i - j)
abbrev rPowI : R2 := rI CPow fun i j => .int (i ^ j.toNat)
abbrev rModI : R2 := rI (fun _ j => 0 < j) fun i j => .int (i % j)
abbrev rDivI : R2 := rI CDiv fun i j => .int (i / j)
abbrev rLtI : R2 := rI0 fun i j => .bl (decide (i < j))
abbrev rGtI : R2 := rI0 fun i j => .bl (decide (j < i))
abbrev rGeI : R2 := rI0 fun i j => .bl (decide (j ≤ i))
end

section
variable {K : PySem.W.Frag} {B F0 : Hp} {ro : Ro} {ka k1 k2 k3 : Cells} {ta : List (V × W)} {sg : L2.St} {H : Hp} {te tf tg : TE} {tl th : TO} {tr : TA} {w x y z : W} {n : Nd} {r : R2}

/-! ### numbers -/
theorem rv_I0 {g : Int → Int → V} {i j : Int} {d : D} (h : ∀ F, Rp K F d (g i j)) : RvD K (rI0 g) ka (.val (.int i)) (.val (.int j)) (.val d) := fun B F0 ro ta sg H u v Q e h1 h2 q =>
  ⟨i, j, e.tm_int h1, e.tm_int h2, q _ _ (e.push_imm fun F => h F)⟩
theorem rv_I {C : Int → Int → Prop} {g : Int → Int → V} {i j : Int} {d : D} (c : C i j) (h : ∀ F, Rp K F d (g i j)) : RvD K (rI C g) ka (.val (.int i)) (.val (.int j)) (.val d) := fun B F0 ro ta sg H u v Q e h1 h2 q =>
  ⟨i, j, e.tm_int h1, e.tm_int h2, c, q _ _ (e.push_imm fun F => h F)⟩
theorem rv_addI {i j : Int} : RvD K (rAddU K) ka (.val (.int i)) (.val (.int j)) (.val (.int (i + j))) := rvd_l (rv_I0 fun _ => rfl)
theorem rv_addS {i j : Str} (h : i.length + j.length ≤ 100000) : RvD K (rAddU K) ka (.val (.str i)) (.val (.str j)) (.val (.str (i ++ j))) := rvd_r (rvd_l fun B F0 ro ta sg H u v Q e h1 h2 q =>
  ⟨i, j, e.tm_str h1, e.tm_str h2, Nat.le_trans h (by decide), q _ _ (e.push_imm fun F => rfl)⟩)
theorem rv_sub {i j : Int} : RvD K rSubI ka (.val (.int i)) (.val (.int j)) (.val (.int (i - j))) := rv_I0 fun _ => rfl
theorem rv_pow {i j : Int} (c : CPow i j) : RvD K rPowI ka (.val (.int i)) (.val (.int j)) (.val (.int (i ^ j.toNat))) := rv_I c fun _ => rfl
theorem rv_mod {i j : Int} (c : 0 < j) : RvD K rModI ka (.val (.int i)) (.val (.int j)) (.val (.int (i % j))) := rv_I c fun _ => rfl
theorem rv_div {i j : Int} (c : CDiv i j) : RvD K rDivI ka (.val (.int i)) (.val (.int j)) (.val (.int (i / j))) := rv_I c fun _ => rfl
theorem rv_lt {i j : Int} : RvD K rLtI ka (.val (.int i)) (.val (.int j)) (.val (.bl (decide (i < j)))) := rv_I0 fun _ => rfl
theorem rv_gt {i j : Int} : RvD K rGtI ka (.val (.int i)) (.val (.int j)) (.val (.bl (decide (j < i)))) := rv_I0 fun _ => rfl
theorem rv_ge {i j : Int} : RvD K rGeI ka (.val (.int i)) (.val (.int j)) (.val (.bl (decide (j ≤ i)))) := rv_I0 fun _ => rfl
/-! ### sequences: what stands behind a value -/
/-- w is a sequence of ds: t: a tuple; b: viewed -/
inductive Lk (ka : Cells) : W → Bool → List D → Bool → Prop where
  | vl {ds} : Lk ka (.val (.lst ds)) false ds false
  | vt {ds} : Lk ka (.val (.tup ds)) true ds false
  | wl {ds} : Lk ka (.vw (.lst ds)) false ds true
  | wt {ds} : Lk ka (.vw (.tup ds)) true ds true
  | ce {a ds} (j : Nat) (h : ka[j]? = some (a, .lst ds)) : Lk ka (.val (.adr a)) false ds false
def SqB (K : PySem.W.Frag) (t : Bool) (H : Hp) (a : Addr) (xs : List V) : Prop := if t then SqT K H a xs else Rd H a (.lst xs)
theorem SqB.sq {t : Bool} {a : Addr} {xs : List V} (h : SqB K t H a xs) : SqL K H a xs ∨ SqT K H a xs := by
  cases t with
  | true => exact .inr h
  | false => exact .inl (.inl h)
/-- what a sequence's value is, its items over a heap G that H holds -/
theorem Lk.get {F : Hp} {t b : Bool} {ds : List D} {v : V} (l : Lk ka w t ds b) (e : EnF K B F ro ka ta sg H) (h : WOk K B F v w) :
    ∃ a xs, v = .ref a ∧ SqB K t H a xs ∧ RpL K (if b then uni B F else F) ds xs := by
  cases l with
  | vl =>
    obtain ⟨a, xs, rfl, h1, h2⟩ := h
    exact ⟨a, xs, rfl, e.fz.rd e.nz h1, h2⟩
  | vt =>
    obtain ⟨a, xs, rfl, h1, h2⟩ := h
    exact ⟨a, xs, rfl, sqT_mono e.fz e.nz h1, h2⟩
  | wl =>
    obtain ⟨a, xs, rfl, h1, h2⟩ := h
    exact ⟨a, xs, rfl, (uni_exz e.fz e.fr).rd (uni_nz e.nz) h1, h2⟩
  | wt =>
    obtain ⟨a, xs, rfl, h1, h2⟩ := h
    exact ⟨a, xs, rfl, sqT_mono (uni_exz e.fz e.fr) (uni_nz e.nz) h1, h2⟩
  | @ce a ds j hj =>
    obtain ⟨_, _, xs, h1, h2⟩ := e.ce _ (List.mem_of_getElem? hj)
    have hv : v = .ref a := h
    exact ⟨a, xs, hv, .inl h1, h2⟩
theorem Lk.at {F : Hp} {t b : Bool} {ds : List D} {v : V} (l : Lk ka w t ds b) (e : EnF K B F ro ka ta sg H) (h : WOk K B F v w) :
    ∃ a xs, v = .ref a ∧ (SqL K H a xs ∨ SqT K H a xs) ∧ RpL K (if b then uni B F else F) ds xs :=
  let ⟨a, xs, h1, h2, h3⟩ := l.get e h
  ⟨a, xs, h1, h2.sq, h3⟩

/-! ### len -/
/-- len: sequences, texts, dicts -/
def rLenU (K : PySem.W.Frag) : List V → Hp → VK → Prop := fun xs H Q => (fun xs H Q => ∃ p ys, xs = [.ref p] ∧ (SqL K H p ys ∨ SqT K H p ys) ∧ Q (.int ys.length) H) xs H Q ∨ (fun xs H Q => ∃ z, xs = [.str z] ∧ z.length ≤ sizeLine ∧ Q (.int z.length) H) xs H Q
theorem call_lenU {X : Cx} : CallR X (.builtin "len") (rLenU X.K) := call_len_seq.or call_len_str
theorem zip_one {us : List V} {x : W} (h : us.length = [x].length) (hm : ∀ p ∈ us.zip [x], p ∈ ta) : ∃ u, us = [u] ∧ (u, x) ∈ ta := by
  match us, h with
  | [u], _ => exact ⟨u, rfl, hm _ List.mem_cons_self⟩
theorem zip_two {us : List V} {x y : W} (h : us.length = [x, y].length) (hm : ∀ p ∈ us.zip [x, y], p ∈ ta) : ∃ u v, us = [u, v] ∧ (u, x) ∈ ta ∧ (v, y) ∈ ta := by
  match us, h with
  | [u, v], _ => exact ⟨u, v, rfl, hm _ List.mem_cons_self, hm _ (List.mem_cons_of_mem _ List.mem_cons_self)⟩
theorem rc_len {t b : Bool} {ds : List D} (l : Lk ka w t ds b) : RcD K (rLenU K) ka [w] (.val (.int ds.length)) := rcd_l fun B F0 ro ta sg H us Q e hl hm q => by
  obtain ⟨u, rfl, hu⟩ := zip_one hl hm
  obtain ⟨F, g, e⟩ := e
  obtain ⟨a, xs, rfl, h1, h2⟩ := l.at e (e.tm _ hu)
  refine ⟨a, xs, rfl, h1, ?_⟩
  rw [rpl_len h2]
  exact q _ _ ⟨F, g, e.push rfl⟩
theorem rc_lenS {s : Str} (h : s.length ≤ 100000) : RcD K (rLenU K) ka [.val (.str s)] (.val (.int s.length)) := rcd_r fun B F0 ro ta sg H us Q e hl hm q => by
  obtain ⟨u, rfl, hu⟩ := zip_one hl hm
  have hv := e.tm_str hu
  subst hv
  exact ⟨s, rfl, Nat.le_trans h (by decide), q _ _ (e.push_imm fun _ => rfl)⟩

/-! ### items -/
theorem atI_map {α β : Type} {f : α → β → Prop} {xs : List α} {ys : List β} (hl : xs.length = ys.length) {i : Int} {y : β} (h : atI ys i = some y) (hf : ∀ (j : Nat) y, ys[j]? = some y → ∃ x, xs[j]? = some x ∧ f x y) : ∃ x, atI xs i = some x ∧ f x y := by
  unfold atI at h ⊢
  rw [hl]
  cases q : ixN ys.length i with
  | none => rw [q] at h; cases h
  | some j =>
    rw [q] at h
    exact hf j y h
theorem rv_ix {t b : Bool} {ds : List D} {i : Int} {d : D} (l : Lk ka w t ds b) (hd : atI ds i = some d) : RvD K (rIx K) ka w (.val (.int i)) (part b d) := fun B F0 ro ta sg H u v Q e h1 h2 q => by
  have hv := e.tm_int h2
  subst hv
  obtain ⟨F, g, e⟩ := e
  obtain ⟨a, xs, rfl, s1, s2⟩ := l.at e (e.tm _ h1)
  obtain ⟨z, hz, rz⟩ := atI_map (f := fun x d => Rp K (if b then uni B F else F) d x) (rpl_len s2) hd fun j y hy => rpl_get s2 hy
  have fin := q z H ⟨F, g, e.push (wok_part b rz)⟩
  rcases s1 with s1 | s1
  · exact .inl ⟨a, xs, i, z, rfl, rfl, s1, hz, fin⟩
  · exact .inr (.inl ⟨a, xs, i, z, rfl, rfl, s1, hz, fin⟩)
theorem rv_ixS {s : Str} {i : Int} {c : Nat} (hs : s.length ≤ 100000) (hc : atI s.cps.toList i = some c) : RvD K (rIx K) ka (.val (.str s)) (.val (.int i)) (.val (.str ⟨#[c]⟩)) := fun B F0 ro ta sg H u v Q e h1 h2 q =>
  .inr (.inr ⟨s, i, c, e.tm_str h1, e.tm_int h2, Nat.le_trans hs (by decide), hc, q _ _ (e.push_imm fun _ => rfl)⟩)

/-! ### slices -/
abbrev rSlU (K : PySem.W.Frag) : V → Option Int → Option Int → Hp → VK → Prop := fun x lo hi H Q => rSlL K x lo hi H Q ∨ (fun x lo hi H Q => rSlA K x lo hi H Q ∨ rSlS x lo hi H Q) x lo hi H Q
theorem sl_U {X : Cx} : SlR X (rSlU X.K) := sl_list.or (sl_tupA.or sl_str)
def cutD {α : Type} (xs : List α) (lo hi : Option Int) : List α := (xs.drop (HT.sIx xs.length 0 lo)).take (HT.sIx xs.length xs.length hi - HT.sIx xs.length 0 lo)
theorem rpl_cut {F : Hp} {ds : List D} {xs : List V} (h : RpL K F ds xs) (lo hi : Option Int) : RpL K F (cutD ds lo hi) (cutV xs lo hi) := by
  unfold cutD cutV
  rw [rpl_len h]
  exact rpl_take _ (rpl_drop _ h)
theorem evn_sl {lo hi : Option Int} {ds : List D} (ha : EvD K te ro ka w k1) (h1 : EvO K tl ro k1 lo k2) (h2 : EvO K th ro k2 hi k3) (l : Lk k3 w false ds false) : EvN K (tSl (rSlU K) te tl th) ro ka (.lst (cutD ds lo hi)) k3 := fun B F0 ta sg H Q e q =>
  ha B F0 ta sg H _ e fun u H1 e1 => h1 B F0 _ sg H1 _ e1 fun H2 e2 => h2 B F0 _ sg H2 _ e2 fun H3 e3 => by
    obtain ⟨F, g, e3⟩ := e3
    obtain ⟨a, xs, rfl, s1, s2⟩ := l.get e3 (e3.tm _ List.mem_cons_self)
    refine .inl ⟨a, xs, rfl, .inl s1, fun p hp => q p _ ?_⟩
    exact ⟨F, g, (e3.cell (o := .lst (cutV xs lo hi)) hp (n := .lst (cutD ds lo hi)) ⟨_, upd_same, rpl_cut s2 lo hi⟩).held fun p hp => List.mem_cons_of_mem _ hp⟩
theorem ev_slT {lo hi : Option Int} {ds : List D} (ha : EvD K te ro ka (.val (.tup ds)) k1) (h1 : EvO K tl ro k1 lo k2) (h2 : EvO K th ro k2 hi k3) : EvD K (tSl (rSlU K) te tl th) ro ka (.val (.tup (cutD ds lo hi))) k3 := fun B F0 ta sg H Q e q =>
  ha B F0 ta sg H _ e fun u H1 e1 => h1 B F0 _ sg H1 _ e1 fun H2 e2 => h2 B F0 _ sg H2 _ e2 fun H3 e3 => by
    obtain ⟨F, g, e3⟩ := e3
    obtain ⟨a, xs, rfl, s1, s2⟩ := Lk.vt.get e3 (e3.tm _ List.mem_cons_self)
    have hk := e3.tm _ List.mem_cons_self
    refine .inr (.inl ⟨a, xs, rfl, s1, fun hw => q _ _ ⟨F, g, (e3.held (ta' := ta) fun p hp => List.mem_cons_of_mem _ hp).push ?_⟩, fun _ p hp => q (.ref p) _ ?_⟩)
    · have e0 : cutD ds lo hi = ds := by
        unfold cutD
        rw [← rpl_len s2, hw.1, hw.2]
        simp
        exact List.take_of_length_le (by rw [rpl_len s2]; exact Nat.le_refl _)
      rw [e0]
      exact hk
    · obtain ⟨e4, g4⟩ := e3.lay (o := .tup (cutV xs lo hi)) hp rfl
      exact ⟨_, g.trans g4, (e4.held (ta' := ta) fun p hp => List.mem_cons_of_mem _ hp).push ⟨p, _, rfl, .inl (.inl upd_same), RpL.mono g4.sub.exz e3.nz _ _ (rpl_cut s2 lo hi)⟩⟩
theorem ev_slS {lo hi : Option Int} {s : Str} (ha : EvD K te ro ka (.val (.str s)) k1) (h1 : EvO K tl ro k1 lo k2) (h2 : EvO K th ro k2 hi k3) (hs : s.length ≤ 100000) : EvD K (tSl (rSlU K) te tl th) ro ka (.val (.str (cutS s lo hi))) k3 := fun B F0 ta sg H Q e q =>
  ha B F0 ta sg H _ e fun u H1 e1 => h1 B F0 _ sg H1 _ e1 fun H2 e2 => h2 B F0 _ sg H2 _ e2 fun H3 e3 =>
    .inr (.inr ⟨s, e3.tm_str List.mem_cons_self, Nat.le_trans hs (by decide), q _ _ (e3.pop.push_imm fun _ => rfl)⟩)

/-! ### list + list, tuple + tuple -/
theorem rvn_cat {b1 b2 : Bool} {ds es : List D} (l1 : Lk ka x false ds false) (l2 : Lk ka y false es false) (hz : ds.length + es.length ≤ 100000) : RvN K (rAddU K) ka x y (.lst (ds ++ es)) :=
  rvn_r (rvn_r (rvn_l fun B F0 ro ta sg H u v Q e h1 h2 q => by
    obtain ⟨F, g, e⟩ := e
    obtain ⟨a, xs, rfl, s1, r1⟩ := l1.get e (e.tm _ h1)
    obtain ⟨b, ys, rfl, s2, r2⟩ := l2.get e (e.tm _ h2)
    refine ⟨a, b, xs, ys, rfl, rfl, s1, s2, by rw [rpl_len r1, rpl_len r2]; exact Nat.le_trans hz (by decide), fun p hp => q p _ ?_⟩
    exact ⟨F, g, e.cell (o := .lst (xs ++ ys)) hp (n := .lst (ds ++ es)) ⟨_, upd_same, rpl_app r1 r2⟩⟩))
end
end DL

/-! DS: statements, loops, contracts by data (own work). -/
namespace DL
open PySem L2

section
variable (K : PySem.W.Frag)
/-- from such a state P holds -/
def Gp (B F0 : Hp) (ta : List (V × W)) (P : L2.St → Hp → Prop) (ro : Ro) (ka : Cells) : Prop := ∀ sg H, En K B F0 ro ka ta sg H → P sg H
/-- how a call ends: with data, or an exception of a class, its own fields -/
inductive Out where
  | ret (d : D) | exc (C : Addr) (fs : List (Str × D)) | exc0 (C : Addr)
abbrev Ct := List W → Cells → (Out → Cells → Prop) → Prop
/-- what is wanted at a return -/
def RtOk (B F0 : Hp) (out : Out → Cells → Prop) (rt : VK) : Prop := ∀ d ka v H, out (.ret d) ka → En K B F0 [] ka [(v, .val d)] [] H → rt v H
def RxOk (B F0 : Hp) (out : Out → Cells → Prop) (E : XK) : Prop :=
  (∀ C fs ka dx H, out (.exc C fs) ka → En K B F0 [] (ka ++ [(dx, .xd fs)]) [] [] H → E (.ref C) (some dx) H) ∧
  ∀ C ka H, out (.exc0 C) ka → En K B F0 [] ka [] [] H → E (.ref C) none H
/-- the promise of a contract -/
def spC (C : Ct) : Sp := fun vs H Q E => ∃ B F args ka out, C args ka out ∧ vs.length = args.length ∧ En K B F [] ka (vs.zip args) [] H ∧ RtOk K B F out Q ∧ RxOk K B F out E
end

section
variable {K : PySem.W.Frag} {B F0 : Hp} {ro : Ro} {ka k1 k2 k3 : Cells} {ta : List (V × W)} {sg : L2.St} {H : Hp} {te tf tg : TE} {tl th : TO} {tr : TA} {tt : TT} {w x y z : W} {n : Nd} {r : R2} {De : Ends} {t u : TS} {P : L2.St → Hp → Prop}
theorem En.gp (e : En K B F0 ro ka ta sg H) (h : Gp K B F0 ta P ro ka) : P sg H := h sg H e
theorem En.set (e : En K B F0 ro ka ((v, w) :: ta) sg H) (i : Nat) : En K B F0 (ro.set i (some w)) ka ta (sg.set i (some v)) H :=
  let ⟨F, g, q⟩ := e
  ⟨F, g, (q.set (q.tm _ List.mem_cons_self) i).held fun _ h => List.mem_cons_of_mem _ h⟩
theorem En.setA (e : En K B F0 ro ka ta sg H) (i : Nat) (a : Addr) : En K B F0 (ro.set i (some (.val (.adr a)))) ka ta (sg.set i (some (.ref a))) H :=
  let ⟨F, g, q⟩ := e
  ⟨F, g, q.set (w := .val (.adr a)) rfl i⟩
theorem g_next (h : Gp K B F0 ta De.nx ro ka) : Gp K B F0 ta (tNext De) ro ka := h
theorem g_asg {i : Nat} (h : EvD K te ro ka w k1) (k : Gp K B F0 ta De.nx (ro.set i (some w)) k1) : Gp K B F0 ta (tAsg te (gName i) De) ro ka := fun sg H e => h B F0 ta sg H _ e fun v H1 e1 => k _ _ (e1.set i)
theorem g_asgN {i : Nat} (h : EvN K te ro ka n k1) (k : ∀ a, Gp K B F0 ta De.nx (ro.set i (some (.val (.adr a)))) (k1 ++ [(a, n)])) : Gp K B F0 ta (tAsg te (gName i) De) ro ka := fun sg H e => h B F0 ta sg H _ e fun a H1 e1 => k a _ _ (e1.setA i a)
theorem q_asg {i : Nat} (h : EvD K te ro ka w k1) (k : Gp K B F0 ta (u De) (ro.set i (some w)) k1) : Gp K B F0 ta (tSeq (tAsg te (gName i)) u De) ro ka := g_asg (De := { De with nx := u De }) h k
theorem q_asgN {i : Nat} (h : EvN K te ro ka n k1) (k : ∀ a, Gp K B F0 ta (u De) (ro.set i (some (.val (.adr a)))) (k1 ++ [(a, n)])) : Gp K B F0 ta (tSeq (tAsg te (gName i)) u De) ro ka := g_asgN (De := { De with nx := u De }) h k
theorem g_drop (h : EvD K te ro ka w k1) (k : Gp K B F0 ta De.nx ro k1) : Gp K B F0 ta (tDrop te De) ro ka := fun sg H e => h B F0 ta sg H _ e fun v H1 e1 => k _ _ e1.pop
theorem q_drop (h : EvD K te ro ka w k1) (k : Gp K B F0 ta (u De) ro k1) : Gp K B F0 ta (tSeq (tDrop te) u De) ro ka := g_drop (De := { De with nx := u De }) h k
theorem g_if {b : Bool} {u : TS} (h : EvT K tt ro ka b k1) (h1 : b = true → Gp K B F0 ta (t De) ro k1) (h2 : b = false → Gp K B F0 ta (u De) ro k1) : Gp K B F0 ta (tIfS tt t u De) ro ka := fun sg H e => h B F0 ta sg H _ e fun H1 e1 => by
  cases b with
  | true => exact h1 rfl _ _ e1
  | false => exact h2 rfl _ _ e1
theorem q_if {b : Bool} {t' : TS} (h : EvT K tt ro ka b k1) (h1 : b = true → Gp K B F0 ta (t { De with nx := u De }) ro k1) (h2 : b = false → Gp K B F0 ta (t' { De with nx := u De }) ro k1) : Gp K B F0 ta (tSeq (tIfS tt t t') u De) ro ka := g_if (De := { De with nx := u De }) h h1 h2
/-- an if without else -/
theorem q_when {b : Bool} (h : EvT K tt ro ka b k1) (h1 : b = true → Gp K B F0 ta (t { De with nx := u De }) ro k1) (h2 : b = false → Gp K B F0 ta (u De) ro k1) : Gp K B F0 ta (tSeq (tIfS tt t tNext) u De) ro ka := g_if (De := { De with nx := u De }) h h1 h2
theorem En.leave (e : En K B F0 ro ka ((v, w) :: ta) sg H) : En K B F0 [] ka [(v, w)] [] H :=
  let ⟨F, g, q⟩ := e
  ⟨F, g, (q.frame (ro' := []) (sg' := []) rfl fun i w h => by simp at h).held fun p hp => by
    have : p = (v, w) := by simpa using hp
    rw [this]
    exact List.mem_cons_self⟩
theorem g_ret {out : Out → Cells → Prop} {d : D} {De : Ends} (hr : RtOk K B F0 out De.rt) (h : EvD K te ro ka (.val d) k1) (o : out (.ret d) k1) : Gp K B F0 ta (tRet te De) ro ka := fun sg H e => h B F0 ta sg H _ e fun v H1 e1 => hr d k1 v H1 o e1.leave
/-- the body's end without a return -/
theorem g_end {out : Out → Cells → Prop} {Q : VK} (hr : RtOk K B F0 out Q) (o : out (.ret .non) ka) : Gp K B F0 ta (fun _ H' => Q .non H') ro ka := fun sg H e => hr .non ka .non H o ((e.push_imm (v := .non) (w := .val .non) fun _ => rfl).leave)
/-! ### cells changed -/
theorem EnF.rd_lst {F : Hp} (e : EnF K B F ro ka ta sg H) {j : Nat} {a : Addr} {ds : List D} (hj : ka[j]? = some (a, .lst ds)) : ∃ xs, H a = some (.lst xs) ∧ RpL K F ds xs := (e.ce _ (List.mem_of_getElem? hj)).2.2
theorem g_app {j0 j : Nat} {a : Addr} {ds0 ds : List D} {d : D} {De : Ends} (ho : EvD K te ro ka (.val (.adr a)) k1) (h0 : k1[j0]? = some (a, .lst ds0)) (he : EvD K tf ro k1 (.val d) k2) (hj : k2[j]? = some (a, .lst ds)) (hz : ds.length < 100000)
    (k : Gp K B F0 ta De.nx ro (k2.set j (a, .lst (ds ++ [d])))) : Gp K B F0 ta (tDrop (tBM K "list" rAppend te (tCons tf tNil)) De) ro ka := fun sg H e => ho B F0 ta sg H _ e fun u H1 e1 => by
  have hu := e1.tm_adr List.mem_cons_self
  subst hu
  refine ⟨?_, he B F0 _ sg H1 _ e1 fun v H2 e2 => ?_⟩
  · obtain ⟨F, g, e1⟩ := e1
    obtain ⟨xs, hx, _⟩ := e1.rd_lst h0
    exact .inl ⟨rfl, xs, .inl (.inl hx)⟩
  · obtain ⟨F, g, e2⟩ := e2
    obtain ⟨xs, hx, rx⟩ := e2.rd_lst hj
    have hv := e2.tm _ List.mem_cons_self
    refine ⟨a, xs, v, rfl, rfl, hx, by rw [rpl_len rx]; exact Nat.lt_of_lt_of_le hz (by decide), k _ _ ⟨F, g, ?_⟩⟩
    exact (e2.write (o := .lst (xs ++ [v])) (n' := .lst (ds ++ [d])) hj ⟨_, upd_same, rpl_app rx ⟨v, [], rfl, hv, rfl⟩⟩).held fun p hp => List.mem_cons_of_mem _ (List.mem_cons_of_mem _ hp)
theorem q_app {j0 j : Nat} {a : Addr} {ds0 ds : List D} {d : D} {De : Ends} (ho : EvD K te ro ka (.val (.adr a)) k1) (h0 : k1[j0]? = some (a, .lst ds0)) (he : EvD K tf ro k1 (.val d) k2) (hj : k2[j]? = some (a, .lst ds)) (hz : ds.length < 100000)
    (k : Gp K B F0 ta (u De) ro (k2.set j (a, .lst (ds ++ [d])))) : Gp K B F0 ta (tSeq (tDrop (tBM K "list" rAppend te (tCons tf tNil))) u De) ro ka := g_app (De := { De with nx := u De }) ho h0 he hj hz k
/-- xs[i] = v -/
theorem g_seti {j : Nat} {a : Addr} {ds : List D} {d : D} {i : Int} {ix : Nat} {De : Ends} (he : EvD K tf ro ka (.val d) k1) (ho : EvD K te ro k1 (.val (.adr a)) k2) (hi : EvD K tg ro k2 (.val (.int i)) k3) (hj : k3[j]? = some (a, .lst ds)) (hx : ixN ds.length i = some ix)
    (k : Gp K B F0 ta De.nx ro (k3.set j (a, .lst (ds.set ix d)))) : Gp K B F0 ta (tAsg tf (gSub te tg rSetL) De) ro ka := fun sg H e => he B F0 ta sg H _ e fun v H1 e1 => ho B F0 _ sg H1 _ e1 fun u H2 e2 => hi B F0 _ sg H2 _ e2 fun i' H3 e3 => by
  have hu := e3.tm_adr (List.mem_cons_of_mem _ List.mem_cons_self)
  have hi' := e3.tm_int List.mem_cons_self
  subst hu hi'
  obtain ⟨F, g, e3⟩ := e3
  obtain ⟨xs, hxs, rx⟩ := e3.rd_lst hj
  have hv := e3.tm (v, .val d) (List.mem_cons_of_mem _ (List.mem_cons_of_mem _ List.mem_cons_self))
  refine ⟨a, xs, i, ix, rfl, rfl, hxs, by rw [rpl_len rx]; exact hx, k _ _ ⟨F, g, ?_⟩⟩
  exact (e3.write (o := .lst (xs.set ix v)) (n' := .lst (ds.set ix d)) hj ⟨_, upd_same, rpl_set ix rx hv⟩).held fun p hp => List.mem_cons_of_mem _ (List.mem_cons_of_mem _ (List.mem_cons_of_mem _ hp))
theorem q_seti {j : Nat} {a : Addr} {ds : List D} {d : D} {i : Int} {ix : Nat} {De : Ends} (he : EvD K tf ro ka (.val d) k1) (ho : EvD K te ro k1 (.val (.adr a)) k2) (hi : EvD K tg ro k2 (.val (.int i)) k3) (hj : k3[j]? = some (a, .lst ds)) (hx : ixN ds.length i = some ix)
    (k : Gp K B F0 ta (u De) ro (k3.set j (a, .lst (ds.set ix d)))) : Gp K B F0 ta (tSeq (tAsg tf (gSub te tg rSetL)) u De) ro ka := g_seti (De := { De with nx := u De }) he ho hi hj hx k

/-! ### what is walked -/
/-- wi walks through the items ws, while C holds of the cells -/
def EvI (K : PySem.W.Frag) (wi : TI) (ro : Ro) (ka : Cells) (ws : List W) (C : Cells → Prop) (ka' : Cells) : Prop := ∀ B F0 ta sg H (R : It → Hp → Prop), En K B F0 ro ka ta sg H →
  (∀ J ta' H', (∀ p ∈ ta, p ∈ ta') → En K B F0 ro ka' ta' sg H' →
    (∀ i w ro2 ka2 ta2 sg2 H2, ws[i]? = some w → C ka2 → (∀ p ∈ ta', p ∈ ta2) → En K B F0 ro2 ka2 ta2 sg2 H2 → J.go i H2 ∧ ∀ x H3, J.yld i H2 x H3 → En K B F0 ro2 ka2 ((x, w) :: ta2) sg2 H3) →
    (∀ i ro2 ka2 ta2 sg2 H2, ws.length ≤ i → C ka2 → (∀ p ∈ ta', p ∈ ta2) → En K B F0 ro2 ka2 ta2 sg2 H2 → J.stop i H2) → R J H') → wi sg H R
/-- the word between two turns -/
def Jp (K : PySem.W.Frag) (B F0 : Hp) (ta : List (V × W)) (Inv : Ro → Cells → Prop) : L2.St → Hp → Prop := fun sg H => ∃ ro ka, Inv ro ka ∧ En K B F0 ro ka ta sg H
theorem g_jp {Inv : Ro → Cells → Prop} (h : Inv ro ka) : Gp K B F0 ta (Jp K B F0 ta Inv) ro ka := fun sg H e => ⟨ro, ka, h, e⟩
theorem g_for {wi : TI} {ws : List W} {C : Cells → Prop} {g : TG} {tb : TS} {De : Ends} (h : EvI K wi ro ka ws C k1) (Inv : Nat → Ro → Cells → Prop) (h0 : Inv 0 ro k1) (hC : ∀ i ro2 ka2, Inv i ro2 ka2 → C ka2)
    (hs : ∀ i w ro2 ka2, ws[i]? = some w → Inv i ro2 ka2 → ∀ ta', Gp K B F0 ta' (fun sg H => ∀ x, En K B F0 ro2 ka2 ((x, w) :: ta') sg H → g x sg H fun sg2 H2 => tb { De with nx := Jp K B F0 ta' (Inv (i + 1)), ct := Jp K B F0 ta' (Inv (i + 1)), bk := De.nx } sg2 H2) ro2 ka2)
    (hd : ∀ ro2 ka2 ta', Inv ws.length ro2 ka2 → (∀ p ∈ ta, p ∈ ta') → Gp K B F0 ta' De.nx ro2 ka2) : Gp K B F0 ta (tFor wi g tb De) ro ka := fun sg H e =>
  h B F0 ta sg H _ e fun J ta' H1 hta e1 hgo hst => by
    refine ⟨fun i m sg H => m = ws.length - i ∧ i ≤ ws.length ∧ Jp K B F0 ta' (Inv i) sg H, ⟨ws.length, by simp, Nat.zero_le _, ro, k1, h0, e1⟩, ?_⟩
    rintro i m sg2 H2 ⟨rfl, hi, ro2, ka2, inv, e2⟩
    by_cases hlt : i < ws.length
    · obtain ⟨g1, g2⟩ := hgo i ws[i] ro2 ka2 ta' sg2 H2 (List.getElem?_eq_getElem hlt) (hC i ro2 ka2 inv) (fun p hp => hp) e2
      refine .inr ⟨g1, Jp K B F0 ta' (Inv (i + 1)), fun sg' H' q => ⟨ws.length - (i + 1), by omega, rfl, hlt, q⟩, fun x H3 y => ?_⟩
      have e3 := g2 x H3 y
      exact hs i ws[i] ro2 ka2 (List.getElem?_eq_getElem hlt) inv ta' sg2 H3 e3.pop x e3
    · have ei : i = ws.length := by omega
      subst ei
      exact .inl ⟨hst _ ro2 ka2 ta' sg2 H2 (Nat.le_refl _) (hC _ ro2 ka2 inv) (fun p hp => hp) e2, hd ro2 ka2 ta' inv hta sg2 H2 e2⟩
/-- .. the target a name -/
theorem g_forn {wi : TI} {ws : List W} {C : Cells → Prop} {j : Nat} {tb : TS} {De : Ends} (h : EvI K wi ro ka ws C k1) (Inv : Nat → Ro → Cells → Prop) (h0 : Inv 0 ro k1) (hC : ∀ i ro2 ka2, Inv i ro2 ka2 → C ka2)
    (hs : ∀ i w ro2 ka2 ta', ws[i]? = some w → Inv i ro2 ka2 → Gp K B F0 ta' (tb { De with nx := Jp K B F0 ta' (Inv (i + 1)), ct := Jp K B F0 ta' (Inv (i + 1)), bk := De.nx }) (ro2.set j (some w)) ka2)
    (hd : ∀ ro2 ka2 ta', Inv ws.length ro2 ka2 → (∀ p ∈ ta, p ∈ ta') → Gp K B F0 ta' De.nx ro2 ka2) : Gp K B F0 ta (tFor wi (gName j) tb De) ro ka :=
  g_for h Inv h0 hC (fun i w ro2 ka2 hw inv ta' sg H e x ex => hs i w ro2 ka2 ta' hw inv _ _ (ex.set j)) hd
theorem q_forn {wi : TI} {ws : List W} {C : Cells → Prop} {j : Nat} {tb : TS} {De : Ends} (h : EvI K wi ro ka ws C k1) (Inv : Nat → Ro → Cells → Prop) (h0 : Inv 0 ro k1) (hC : ∀ i ro2 ka2, Inv i ro2 ka2 → C ka2)
    (hs : ∀ i w ro2 ka2 ta', ws[i]? = some w → Inv i ro2 ka2 → Gp K B F0 ta' (tb { De with nx := Jp K B F0 ta' (Inv (i + 1)), ct := Jp K B F0 ta' (Inv (i + 1)), bk := u De }) (ro2.set j (some w)) ka2)
    (hd : ∀ ro2 ka2 ta', Inv ws.length ro2 ka2 → (∀ p ∈ ta, p ∈ ta') → Gp K B F0 ta' (u De) ro2 ka2) : Gp K B F0 ta (tSeq (tFor wi (gName j) tb) u De) ro ka := g_forn (De := { De with nx := u De }) h Inv h0 hC hs hd
theorem ei_range1 {tr : TA} {m : Int} (h : EvA K tr ro ka [.val (.int m)] k1) (hm : m ≤ 1000000) (hm0 : -1000000 ≤ m) : EvI K (iRng1 tr) ro ka ((List.range m.toNat).map fun i : Nat => W.val (.int (i : Int))) (fun _ => True) k1 := fun B F0 ta sg H R e q =>
  h B F0 ta sg H _ e fun vs H1 hl e1 => by
    match vs, hl with
    | [v], _ =>
      have hv := e1.tm_int (v := v) (i := m) List.mem_cons_self
      subst hv
      refine ⟨m, rfl, by omega, by omega, q _ ta H1 (fun p hp => hp) (e1.held fun p hp => List.mem_append_right _ hp) (fun i w ro2 ka2 ta2 sg2 H2 hw _ _ e2 => ?_) fun i ro2 ka2 ta2 sg2 H2 hi _ _ _ => ?_⟩
      · rw [List.getElem?_map] at hw
        cases hi : (List.range m.toNat)[i]? with
        | none => rw [hi] at hw; cases hw
        | some j =>
          rw [hi] at hw
          obtain ⟨hlt, hj⟩ := List.getElem?_eq_some_iff.mp hi
          rw [List.getElem_range] at hj
          subst hj
          cases hw
          refine ⟨by show i < _; simpa using hlt, fun x H3 ⟨e3, ex⟩ => ?_⟩
          subst e3 ex
          exact e2.push_imm fun _ => by
            show V.int (0 + (i : Int)) = V.int (i : Int)
            rw [Int.zero_add]
      · rw [List.length_map, List.length_range] at hi
        exact hi
end

/-! ### any sequence walked -/
/-- lists, tuples, texts -/
def iSeq (K : PySem.W.Frag) (tl : TE) : TI := fun sg H R => iList K tl sg H R ∨ iTup K tl sg H R ∨ iStr tl sg H R
theorem pi_seq {X : Cx} {tg : Expr} {l : Expr} {tl : TE} (hl : PE X l tl) : PI X tg l (iSeq X.K tl) :=
  ⟨fun pins s sg H R I h => h.elim ((pi_list hl).run pins s sg H R I) fun h => h.elim ((pi_tup hl).run pins s sg H R I) ((pi_str hl).run pins s sg H R I)⟩
section
variable {K : PySem.W.Frag} {ro : Ro} {ka k1 : Cells} {te : TE} {w : W}
/-- the cell that is walked stays -/
def Stay (w : W) (ds : List D) (ka : Cells) : Prop := match w with
  | .val (.adr a) => (a, Nd.lst ds) ∈ ka
  | _ => True
theorem Lk.mono {ka : Cells} {t b : Bool} {ds : List D} (l : Lk ka w t ds b) (ka2 : Cells) (h : Stay w ds ka2) : Lk ka2 w t ds b := by
  cases l with
  | vl => exact .vl
  | vt => exact .vt
  | wl => exact .wl
  | wt => exact .wt
  | ce j hj =>
    obtain ⟨j2, h2⟩ := List.getElem?_of_mem h
    exact .ce j2 h2
theorem ei_seq {t b : Bool} {ds : List D} (h : EvD K te ro ka w k1) (l : Lk k1 w t ds b) : EvI K (iSeq K te) ro ka (ds.map (part b)) (Stay w ds) k1 := fun B F0 ta sg H R e q => by
  have again : ∀ (a : Addr) ro2 ka2 ta2 sg2 H2, Stay w ds ka2 → (V.ref a, w) ∈ ta2 → En K B F0 ro2 ka2 ta2 sg2 H2 → ∃ F ys, EnF K B F ro2 ka2 ta2 sg2 H2 ∧ Gr B F0 F ∧ SqB K t H2 a ys ∧ RpL K (if b then uni B F else F) ds ys := fun a ro2 ka2 ta2 sg2 H2 hs hm e2 => by
    obtain ⟨F, g, e2⟩ := e2
    obtain ⟨a', ys, e', s2, r2⟩ := (l.mono ka2 hs).get e2 (e2.tm _ hm)
    cases e'
    exact ⟨F, ys, e2, g, s2, r2⟩
  have item : ∀ {i : Nat} {w2 : W} {F : Hp} {ys : List V}, (ds.map (part b))[i]? = some w2 → RpL K (if b then uni B F else F) ds ys → ∃ y, ys[i]? = some y ∧ WOk K B F y w2 := fun {i w2 F ys} hw r2 => by
    rw [List.getElem?_map] at hw
    cases hd : ds[i]? with
    | none => rw [hd] at hw; cases hw
    | some d =>
      rw [hd] at hw
      cases hw
      obtain ⟨y, hy, ry⟩ := rpl_get r2 hd
      exact ⟨y, hy, wok_part b ry⟩
  cases t with
  | true =>
    refine .inr (.inl (h B F0 ta sg H _ e fun v H1 e1 => ?_))
    obtain ⟨F, g, ef⟩ := id e1
    obtain ⟨a, xs, rfl, s1, r1⟩ := l.get ef (ef.tm _ List.mem_cons_self)
    refine ⟨a, rfl, ⟨xs, s1⟩, q _ ((.ref a, w) :: ta) H1 (fun p hp => List.mem_cons_of_mem _ hp) e1 (fun i w2 ro2 ka2 ta2 sg2 H2 hw hs hm e2 => ?_) fun i ro2 ka2 ta2 sg2 H2 hi hs hm e2 => ?_⟩
    · obtain ⟨F2, ys, ef2, g2, s2, r2⟩ := again a ro2 ka2 ta2 sg2 H2 hs (hm _ List.mem_cons_self) e2
      obtain ⟨y, hy, wy⟩ := item hw r2
      refine ⟨⟨ys, y, s2, hy⟩, fun x H3 ⟨e3, ex⟩ => ?_⟩
      subst e3
      have h5 := ex ys s2
      rw [hy] at h5
      cases h5
      exact ⟨F2, g2, ef2.push wy⟩
    · obtain ⟨F2, ys, ef2, g2, s2, r2⟩ := again a ro2 ka2 ta2 sg2 H2 hs (hm _ List.mem_cons_self) e2
      refine ⟨ys, s2, ?_⟩
      rw [rpl_len r2]
      rwa [List.length_map] at hi
  | false =>
    refine .inl (h B F0 ta sg H _ e fun v H1 e1 => ?_)
    obtain ⟨F, g, ef⟩ := id e1
    obtain ⟨a, xs, rfl, s1, r1⟩ := l.get ef (ef.tm _ List.mem_cons_self)
    refine ⟨a, rfl, ⟨xs, .inl s1⟩, q _ ((.ref a, w) :: ta) H1 (fun p hp => List.mem_cons_of_mem _ hp) e1 (fun i w2 ro2 ka2 ta2 sg2 H2 hw hs hm e2 => ?_) fun i ro2 ka2 ta2 sg2 H2 hi hs hm e2 => ?_⟩
    · obtain ⟨F2, ys, ef2, g2, s2, r2⟩ := again a ro2 ka2 ta2 sg2 H2 hs (hm _ List.mem_cons_self) e2
      obtain ⟨y, hy, wy⟩ := item hw r2
      refine ⟨⟨ys, y, .inl s2, hy⟩, fun x H3 ⟨e3, ex⟩ => ?_⟩
      subst e3
      have h5 := ex ys (.inl s2)
      rw [hy] at h5
      cases h5
      exact ⟨F2, g2, ef2.push wy⟩
    · obtain ⟨F2, ys, ef2, g2, s2, r2⟩ := again a ro2 ka2 ta2 sg2 H2 hs (hm _ List.mem_cons_self) e2
      refine ⟨ys, .inl s2, ?_⟩
      rw [rpl_len r2]
      rwa [List.length_map] at hi
theorem ei_str {s : Str} (h : EvD K te ro ka (.val (.str s)) k1) : EvI K (iSeq K te) ro ka (s.cps.toList.map fun c => W.val (.str ⟨#[c]⟩)) (fun _ => True) k1 := fun B F0 ta sg H R e q =>
  .inr (.inr (h B F0 ta sg H _ e fun v H1 e1 => by
    have hv := e1.tm_str List.mem_cons_self
    subst hv
    refine ⟨s, rfl, q _ ta H1 (fun p hp => hp) e1.pop (fun i w2 ro2 ka2 ta2 sg2 H2 hw _ hm e2 => ?_) fun i ro2 ka2 ta2 sg2 H2 hi _ hm e2 => ?_⟩
    · rw [List.getElem?_map] at hw
      cases hd : s.cps.toList[i]? with
      | none => rw [hd] at hw; cases hw
      | some c =>
        rw [hd] at hw
        cases hw
        have hc : s.cps[i]? = some c := by simpa using hd
        refine ⟨(Array.getElem?_eq_some_iff.mp hc).1, fun x H3 ⟨e3, c', hc', ex⟩ => ?_⟩
        subst e3 ex
        rw [hc] at hc'
        cases hc'
        exact e2.push_imm fun _ => rfl
    · show s.cps.size ≤ i
      simpa using hi))
end
end DL

/-! DT: frames, calls, comprehensions by data (own work). -/
namespace DL
open PySem L2

section
variable {K : PySem.W.Frag} {B B' F F' F0 : Hp} {ro : Ro} {ka k1 k2 k3 kr : Cells} {ta : List (V × W)} {sg : L2.St} {H H' : Hp} {te tf tg : TE} {tl th : TO} {tr : TA} {tt : TT} {w x y z : W} {n : Nd}

/-- H without the cells of kf -/
def off (H : Hp) (kf : Cells) : Hp := fun a => if a ∈ kf.map (·.1) then none else H a
theorem off_in {kf : Cells} {a : Addr} (h : a ∈ kf.map (·.1)) : off H kf a = none := if_pos h
theorem off_out {kf : Cells} {a : Addr} (h : a ∉ kf.map (·.1)) : off H kf a = H a := if_neg h
theorem off_some {kf : Cells} {a : Addr} {o : HO} (h : off H kf a = some o) : a ∉ kf.map (·.1) ∧ H a = some o := by
  unfold off at h
  split at h
  · cases h
  · rename_i q
    exact ⟨q, h⟩
theorem EnF.sub_off (e : EnF K B F ro ka ta sg H) {kf : Cells} (hk : ∀ p ∈ kf, p ∈ ka) : Sub B (off H kf) := fun a o h => by
  have na : a ∉ kf.map (·.1) := fun hm => by
    obtain ⟨p, hp, rfl⟩ := List.mem_map.mp hm
    have := (e.ce p (hk p hp)).2.1
    rw [this] at h
    cases h
  rw [off_out na]
  exact e.fr a o h
theorem uni_subB {B B' F : Hp} (h : Sub B B') : Sub (uni B F) (uni B' F) := fun a u q => by
  unfold uni at q ⊢
  cases hf : F a with
  | some o => rw [hf] at q; exact q
  | none =>
    rw [hf] at q
    cases hb : B a with
    | none => rw [hb] at q; cases q
    | some o => rw [hb] at q; rw [h a o hb]; exact q
theorem wok_subB (n : Nz F) (h : Sub B B') {v : V} {w : W} (q : WOk K B F v w) : WOk K B' F v w := by
  cases w with
  | val d => exact q
  | vw d => exact Rp.mono (uni_subB h).exz (uni_nz n) d v q
/-- the part of a state that a part of the text works on: the cells kf, all else as it stands -/
theorem EnF.into (e : EnF K B F ro (ka ++ kr) ta sg H) {ro' : Ro} {sg' : L2.St} {ta' : List (V × W)} (hl : sg'.length = ro'.length) (hs : ∀ (i : Nat) w, ro'[i]? = some (some w) → ∃ v, sg'[i]? = some (some v) ∧ WOk K B F v w) (ht : ∀ p ∈ ta', p ∈ ta) :
    EnF K (off H ka) F ro' ka ta' sg' H := by
  have hsub : Sub B (off H ka) := e.sub_off fun p hp => List.mem_append_left _ hp
  have nd := e.nd
  rw [List.map_append, List.nodup_append] at nd
  refine ⟨e.nz, e.fz, fun a o h => (off_some h).2, nd.1, fun p hp => ?_, hl, fun i w h => ?_, fun p hp => wok_subB e.nz hsub (e.tm p (ht p hp))⟩
  · obtain ⟨h1, h2, h3⟩ := e.ce p (List.mem_append_left _ hp)
    exact ⟨h1, off_in (List.mem_map.mpr ⟨p, hp, rfl⟩), h3⟩
  · obtain ⟨v, h1, h2⟩ := hs i w h
    exact ⟨v, h1, wok_subB e.nz hsub h2⟩
/-- .. and back -/
theorem EnF.back (e : EnF K B F ro (ka ++ kr) ta sg H) (g : Gr (off H ka) F F') {ro' : Ro} {sg' : L2.St} {ta' : List (V × W)} (e' : EnF K (off H ka) F' ro' k2 ta' sg' H') {tb : List (V × W)} (hb : ∀ p ∈ tb, p ∈ ta ∨ ∃ d, p.2 = .val d ∧ p ∈ ta') :
    Gr B F F' ∧ EnF K B F' ro (k2 ++ kr) tb sg H' := by
  have hsub : Sub B (off H ka) := e.sub_off fun p hp => List.mem_append_left _ hp
  have gg : Gr B F F' := ⟨g.sub, fun a h1 h2 => g.off a h1 fun q => by
    cases hb2 : B a with
    | none => exact h2 hb2
    | some o => rw [hsub a o hb2] at q; cases q⟩
  have nd := e.nd
  rw [List.map_append, List.nodup_append] at nd
  -- the cells that were left stand off what was worked on
  have left : ∀ p ∈ kr, off H ka p.1 ≠ none ∧ H' p.1 = H p.1 := fun p hp => by
    obtain ⟨h1, h2, h3⟩ := e.ce p (List.mem_append_right _ hp)
    have hn : p.1 ∉ ka.map (·.1) := fun hm => nd.2.2 _ hm _ (List.mem_map.mpr ⟨p, hp, rfl⟩) rfl
    cases q : H p.1 with
    | none => exact absurd q (ndok_ne h3)
    | some o =>
      have ho : off H ka p.1 = some o := by rw [off_out hn]; exact q
      exact ⟨by rw [ho]; exact fun z => (by cases z), e'.fr _ _ ho⟩
  refine ⟨gg, e'.nz, e'.fz, hsub.trans e'.fr, ?_, fun p hp => ?_, e.ln, fun i w h => ?_, fun p hp => ?_⟩
  · rw [List.map_append, List.nodup_append]
    refine ⟨e'.nd, nd.2.1, fun a ha b hb => ?_⟩
    obtain ⟨p, hp, rfl⟩ := List.mem_map.mp ha
    obtain ⟨q, hq, rfl⟩ := List.mem_map.mp hb
    intro z
    exact (left q hq).1 (z ▸ (e'.ce p hp).2.1)
  · rcases List.mem_append.mp hp with hp | hp
    · obtain ⟨h1, h2, h3⟩ := e'.ce p hp
      refine ⟨h1, ?_, h3⟩
      cases q : B p.1 with
      | none => rfl
      | some o => rw [hsub _ _ q] at h2; cases h2
    · obtain ⟨h1, h2, h3⟩ := e.ce p (List.mem_append_right _ hp)
      obtain ⟨l1, l2⟩ := left p hp
      exact ⟨g.off _ h1 l1, h2, ndok_at l2 (ndok_gr e.nz gg h3)⟩
  · obtain ⟨v, h1, h2⟩ := e.sl i w h
    exact ⟨v, h1, wok_gr e.nz gg h2⟩
  · rcases hb p hp with q | ⟨d, hd, q⟩
    · exact wok_gr e.nz gg (e.tm p q)
    · have h2 := e'.tm p q
      rw [hd] at h2 ⊢
      exact h2

/-! ### frames -/
theorem EvD.fr {d : D} (h : EvD K te ro ka (.val d) k2) (kr : Cells) : EvD K te ro (ka ++ kr) (.val d) (k2 ++ kr) := fun B F0 ta sg H Q e q => by
  obtain ⟨F, g, e⟩ := e
  refine h (off H ka) F ta sg H Q ⟨F, Gr.refl _ _, e.into e.ln e.sl fun p hp => hp⟩ fun v H' ⟨F', g', e'⟩ => ?_
  obtain ⟨g2, e2⟩ := e.back g' e' (tb := (v, .val d) :: ta) fun p hp => by
    rcases List.mem_cons.mp hp with rfl | hp
    · exact .inr ⟨d, rfl, List.mem_cons_self⟩
    · exact .inl hp
  exact q v H' ⟨F', g.trans g2, e2⟩
theorem EvT.fr {b : Bool} (h : EvT K tt ro ka b k2) (kr : Cells) : EvT K tt ro (ka ++ kr) b (k2 ++ kr) := fun B F0 ta sg H Q e q => by
  obtain ⟨F, g, e⟩ := e
  refine h (off H ka) F ta sg H Q ⟨F, Gr.refl _ _, e.into e.ln e.sl fun p hp => hp⟩ fun H' ⟨F', g', e'⟩ => ?_
  obtain ⟨g2, e2⟩ := e.back g' e' (tb := ta) fun p hp => .inl hp
  exact q H' ⟨F', g.trans g2, e2⟩
theorem En.perm (e : En K B F0 ro ka ta sg H) (h : k1.Perm ka) : En K B F0 ro k1 ta sg H :=
  let ⟨F, g, q⟩ := e
  ⟨F, g, q.perm h⟩
theorem EvN.fr {m : Nd} (h : EvN K te ro ka m k2) (kr : Cells) : EvN K te ro (ka ++ kr) m (k2 ++ kr) := fun B F0 ta sg H Q e q => by
  obtain ⟨F, g, e⟩ := e
  refine h (off H ka) F ta sg H Q ⟨F, Gr.refl _ _, e.into e.ln e.sl fun p hp => hp⟩ fun a H' ⟨F', g', e'⟩ => ?_
  obtain ⟨g2, e2⟩ := e.back g' e' (tb := ta) fun p hp => .inl hp
  refine q a H' ⟨F', g.trans g2, e2.perm ?_⟩
  rw [List.append_assoc, List.append_assoc]
  exact List.Perm.append_left _ List.perm_append_comm

/-! ### calls -/
/-- a call that comes back -/
theorem sp_ret {C : Ct} {ws : List W} {out : Out → Cells → Prop} {vs : List V} {E : XK} {Q : VK} {d : D} (e : En K B F0 ro (ka ++ kr) (vs.zip ws ++ ta) sg H) (hl : vs.length = ws.length) (hC : C ws ka out) (ho : ∀ o k, out o k → o = .ret d ∧ k = k2)
    (q : ∀ v H', En K B F0 ro (k2 ++ kr) ((v, .val d) :: ta) sg H' → Q v H') : spC K C vs H Q E := by
  obtain ⟨F, g, e⟩ := e
  refine ⟨off H ka, F, ws, ka, out, hC, hl, ⟨F, Gr.refl _ _, e.into (ro' := []) (sg' := []) (ta' := vs.zip ws) rfl (fun i w h => by simp at h) fun p hp => List.mem_append_left _ hp⟩, fun d' k v H' o ⟨F', g', e'⟩ => ?_, fun C fs k dx H' o _ => ?_, fun C k H' o _ => ?_⟩
  · obtain ⟨hd, rfl⟩ := ho _ _ o
    cases hd
    obtain ⟨g2, e2⟩ := e.back g' e' (tb := (v, .val d) :: ta) fun p hp => by
      rcases List.mem_cons.mp hp with rfl | hp
      · exact .inr ⟨d, rfl, List.mem_cons_self⟩
      · exact .inl (List.mem_append_right _ hp)
    exact q v H' ⟨F', g.trans g2, e2⟩
  · have := (ho _ _ o).1
    cases this
  · have := (ho _ _ o).1
    cases this
/-- .. the cells that it works on ahead of others -/
theorem ev_callF {C : Ct} {ws : List W} {out : Out → Cells → Prop} {E : XK} {d : D} (kr : Cells) (ha : EvA K tr ro ka ws (k1 ++ kr)) (hC : C ws k1 out) (ho : ∀ o k, out o k → o = .ret d ∧ k = k2) : EvD K (tCall (spC K C) [] E tr) ro ka (.val d) (k2 ++ kr) := fun B F0 ta sg H Q e q =>
  ha B F0 ta sg H _ e fun vs H1 hl e1 => by
    rw [List.append_nil]
    exact sp_ret e1 hl hC ho q
/-! ### comprehensions -/
def wipeR (ro : Ro) : List Nat → Ro
  | [] => ro
  | v :: vs => (wipeR ro vs).set v none
theorem wipe_en : ∀ {vs : List Nat}, EnF K B F ro ka ta sg H → EnF K B F (wipeR ro vs) ka ta (wipe sg vs) H
  | [], e => e
  | v :: vs, e => by
    have e1 := wipe_en (vs := vs) e
    refine e1.frame (by show (List.set _ _ _).length = (List.set _ _ _).length; rw [List.length_set, List.length_set, e1.ln]) fun i w h => ?_
    show ∃ v', ((wipe sg vs).set v none)[i]? = some (some v') ∧ _
    have h' : ((wipeR ro vs).set v none)[i]? = some (some w) := h
    by_cases hi : v = i
    · subst hi
      have hlt : v < (wipeR ro vs).length := by
        have := (List.getElem?_eq_some_iff.mp h').1
        rwa [List.length_set] at this
      rw [List.getElem?_set_self hlt] at h'
      cases h'
    · rw [List.getElem?_set_ne hi] at h' ⊢
      exact e1.sl i w h'
theorem wipe_set (sg : L2.St) (vs : List Nat) {j : Nat} (hj : j ∈ vs) (v : V) : wipe ((wipe sg vs).set j (some v)) vs = wipe sg vs := by
  have key : ∀ (vs : List Nat) (s t : L2.St), s.length = t.length → (∀ i : Nat, i ∉ vs → s[i]? = t[i]?) → wipe s vs = wipe t vs := by
    intro vs
    induction vs with
    | nil =>
      intro s t hl h
      exact List.ext_getElem? fun i => h i (by simp)
    | cons a vs ih =>
      intro s t hl h
      show (wipe s vs).set a none = (wipe t vs).set a none
      apply List.ext_getElem?
      intro i
      by_cases hi : a = i
      · subst hi
        rw [List.getElem?_set, List.getElem?_set, wipe_length, wipe_length, hl, if_pos rfl, if_pos rfl]
      · rw [List.getElem?_set_ne hi, List.getElem?_set_ne hi]
        have gen : ∀ (vs : List Nat) (s t : L2.St), s.length = t.length → ∀ i : Nat, s[i]? = t[i]? → (wipe s vs)[i]? = (wipe t vs)[i]? := by
          intro vs
          induction vs with
          | nil => intro s t _ i h; exact h
          | cons b vs ih2 =>
            intro s t hl i h
            show ((wipe s vs).set b none)[i]? = ((wipe t vs).set b none)[i]?
            rw [List.getElem?_set, List.getElem?_set, wipe_length, wipe_length, hl, ih2 s t hl i h]
        by_cases hv : i ∈ vs
        · have wn : ∀ (vs : List Nat) (s : L2.St) (i : Nat), i ∈ vs → i < s.length → (wipe s vs)[i]? = some none := by
            intro vs
            induction vs with
            | nil => intro s i h; simp at h
            | cons b vs ih2 =>
              intro s i h hlt
              show ((wipe s vs).set b none)[i]? = some none
              by_cases hb : b = i
              · subst hb
                rw [List.getElem?_set_self (by rw [wipe_length]; exact hlt)]
              · rw [List.getElem?_set_ne hb]
                rcases List.mem_cons.mp h with q | q
                · exact absurd q.symm hb
                · exact ih2 s i q hlt
          by_cases hlt : i < s.length
          · rw [wn vs s i hv hlt, wn vs t i hv (hl ▸ hlt)]
          · rw [List.getElem?_eq_none (by rw [wipe_length]; omega), List.getElem?_eq_none (by rw [wipe_length]; omega)]
        · exact gen vs s t hl i (h i (by simp [Ne.symm hi, hv]))
  have idem : ∀ (vs : List Nat) (s : L2.St), wipe (wipe s vs) vs = wipe s vs := fun vs s => key vs _ _ (wipe_length _ _) fun i hi => by
    have gen : ∀ (us : List Nat) (s : L2.St), i ∉ us → (wipe s us)[i]? = s[i]? := by
      intro us
      induction us with
      | nil => intro s _; rfl
      | cons b us ih2 =>
        intro s h
        show ((wipe s us).set b none)[i]? = s[i]?
        rw [List.getElem?_set_ne (fun q => h (by simp [q])), ih2 s fun q => h (List.mem_cons_of_mem _ q)]
    exact gen vs s hi
  have e1 : wipe ((wipe sg vs).set j (some v)) vs = wipe (wipe sg vs) vs := key vs _ _ (by rw [List.length_set]) fun i hi => by
    have hne : j ≠ i := fun q => hi (q ▸ hj)
    exact List.getElem?_set_ne hne
  rw [e1, idem]
/-- a new cell of which R tells -/
def EvNR (K : PySem.W.Frag) (te : TE) (ro : Ro) (ka : Cells) (R : Nd → Cells → Prop) : Prop := ∀ B F0 ta sg H (Q : VK), En K B F0 ro ka ta sg H → (∀ n k a H', R n k → En K B F0 ro (k ++ [(a, n)]) ta sg H' → Q (.ref a) H') → te sg H Q
/-- [e for x in .. if ..]: what is told of the list -/
theorem evr_lc {wi : TI} {ws : List W} {C : Cells → Prop} {j : Nat} {vs : List Nat} (h : EvI K wi ro ka ws C k1) (hj : j ∈ vs) (hn : ws.length ≤ 1000000) (Inv : Nat → List D → Cells → Prop) (h0 : Inv 0 [] k1) (hC : ∀ i acc k, Inv i acc k → C k ∧ ∀ x, C (k ++ [x]))
    (hs : ∀ i w acc k, ws[i]? = some w → Inv i acc k → (∃ k2, EvT K tt ((wipeR ro vs).set j (some w)) k false k2 ∧ Inv (i + 1) acc k2) ∨ ∃ k2 k3 d, EvT K tt ((wipeR ro vs).set j (some w)) k true k2 ∧ EvD K te ((wipeR ro vs).set j (some w)) k2 (.val d) k3 ∧ Inv (i + 1) (acc ++ [d]) k3)
    : EvNR K (tLc wi (gName j) tt te vs) ro ka (fun n k => ∃ acc, n = .lst acc ∧ Inv ws.length acc k) := fun B F0 ta sg H Q e q =>
  h B F0 ta sg H _ e fun J ta' H1 hta e1 hgo hst => fun Dl hD => by
    -- the word: the list so far is the last cell
    let P : Nat → Hp → Prop := fun i H => ∃ acc k, Inv i acc k ∧ acc.length ≤ i ∧ En K B F0 ro (k ++ [(Dl, .lst acc)]) ta' sg H
    have p0 : P 0 (upd H1 Dl (.lst [])) := by
      obtain ⟨F, g, e1⟩ := e1
      exact ⟨[], k1, h0, Nat.le_refl _, F, g, e1.cell (o := .lst []) hD (n := .lst []) ⟨[], upd_same, rfl⟩⟩
    refine ⟨fun i m H => m = ws.length - i ∧ i ≤ ws.length ∧ P i H, ⟨ws.length, by simp, Nat.zero_le _, p0⟩, ?_⟩
    rintro i m H2 ⟨rfl, hi, acc, k, inv, hlen, e2⟩
    by_cases hlt : i < ws.length
    · have hw := List.getElem?_eq_getElem hlt
      obtain ⟨g1, g2⟩ := hgo i ws[i] ro (k ++ [(Dl, .lst acc)]) ta' sg H2 hw ((hC i acc k inv).2 _) (fun p hp => hp) e2
      refine .inr ⟨g1, P (i + 1), fun H' p => ⟨ws.length - (i + 1), by omega, rfl, hlt, p⟩, fun x H3 y => ?_⟩
      have e3 := g2 x H3 y
      refine ⟨wipe_set sg vs hj x, ?_⟩
      -- within the block
      have e4 : En K B F0 ((wipeR ro vs).set j (some ws[i])) (k ++ [(Dl, .lst acc)]) ta' ((wipe sg vs).set j (some x)) H3 := by
        obtain ⟨F, g, e3⟩ := e3
        exact ⟨F, g, ((wipe_en (vs := vs) e3).set (e3.tm _ List.mem_cons_self) j).held fun p hp => List.mem_cons_of_mem _ hp⟩
      -- and back out of it
      have out : ∀ {k : Cells} {ta2 : List (V × W)} {H : Hp}, (∃ F, Gr B F0 F ∧ EnF K B F ((wipeR ro vs).set j (some ws[i])) k ta2 ((wipe sg vs).set j (some x)) H ∧ ∀ (a : Nat) w, ro[a]? = some (some w) → ∃ v, sg[a]? = some (some v) ∧ WOk K B F v w) → En K B F0 ro k ta2 sg H := fun ⟨F, g, q, hs⟩ => ⟨F, g, q.frame (by obtain ⟨_, _, e0⟩ := e; exact e0.ln) hs⟩
      obtain ⟨F3, gF3, eF3⟩ := e3
      have slots : ∀ {F : Hp}, Gr B F3 F → ∀ (a : Nat) w, ro[a]? = some (some w) → ∃ v, sg[a]? = some (some v) ∧ WOk K B F v w := fun {F} g a w ha => by
        obtain ⟨v, h1, h2⟩ := eF3.sl a w ha
        exact ⟨v, h1, wok_gr eF3.nz g h2⟩
      have e4' : En K B F3 ((wipeR ro vs).set j (some ws[i])) (k ++ [(Dl, .lst acc)]) ta' ((wipe sg vs).set j (some x)) H3 :=
        ⟨F3, Gr.refl _ _, ((wipe_en (vs := vs) eF3).set (eF3.tm _ List.mem_cons_self) j).held fun p hp => List.mem_cons_of_mem _ hp⟩
      rcases hs i ws[i] acc k hw inv with ⟨k2, t1, inv2⟩ | ⟨k2, k3, d, t1, t2, inv2⟩
      · refine t1.fr [(Dl, .lst acc)] B F3 ta' _ H3 _ e4' fun H4 ⟨F4, g4, e5⟩ => ?_
        exact ⟨acc, k2, inv2, Nat.le_succ_of_le hlen, out ⟨F4, gF3.trans g4, e5, slots g4⟩⟩
      · refine t1.fr [(Dl, .lst acc)] B F3 ta' _ H3 _ e4' fun H4 e5 => ?_
        refine t2.fr [(Dl, .lst acc)] B F3 ta' _ H4 _ e5 fun v H5 ⟨F5, g5, e6⟩ => ?_
        have hx : (k3 ++ [(Dl, Nd.lst acc)])[k3.length]? = some (Dl, Nd.lst acc) := by simp
        obtain ⟨xs, h1, h2⟩ := e6.rd_lst hx
        have hv := e6.tm _ List.mem_cons_self
        have e7 := e6.write (o := .lst (xs ++ [v])) (n' := .lst (acc ++ [d])) hx ⟨_, upd_same, rpl_app h2 ⟨v, [], rfl, hv, rfl⟩⟩
        have hset : (k3 ++ [(Dl, Nd.lst acc)]).set k3.length (Dl, Nd.lst (acc ++ [d])) = k3 ++ [(Dl, Nd.lst (acc ++ [d]))] := by
          rw [List.set_append_right _ _ (Nat.le_refl _)]
          simp
        rw [hset] at e7
        refine ⟨xs, h1, by rw [rpl_len h2]; exact Nat.lt_of_le_of_lt (Nat.le_trans hlen (Nat.le_trans hi hn)) (by decide), acc ++ [d], k3, inv2, by rw [List.length_append]; exact Nat.succ_le_succ hlen, ?_⟩
        exact out ⟨F5, gF3.trans g5, e7.held fun p hp => List.mem_cons_of_mem _ hp, slots g5⟩
    · have ei : i = ws.length := by omega
      subst ei
      refine .inl ⟨hst _ ro (k ++ [(Dl, .lst acc)]) ta' sg H2 (Nat.le_refl _) ((hC _ acc k inv).2 _) (fun p hp => hp) e2, ?_⟩
      exact q _ _ Dl H2 ⟨acc, rfl, inv⟩ (e2.held hta)
/-- [e for x in .. if ..] -/
theorem evn_lc {wi : TI} {ws : List W} {C : Cells → Prop} {j : Nat} {vs : List Nat} (h : EvI K wi ro ka ws C k1) (hj : j ∈ vs) (hn : ws.length ≤ 1000000) (Inv : Nat → List D → Cells → Prop) (h0 : Inv 0 [] k1) (hC : ∀ i acc k, Inv i acc k → C k ∧ ∀ x, C (k ++ [x]))
    (hs : ∀ i w acc k, ws[i]? = some w → Inv i acc k → (∃ k2, EvT K tt ((wipeR ro vs).set j (some w)) k false k2 ∧ Inv (i + 1) acc k2) ∨ ∃ k2 k3 d, EvT K tt ((wipeR ro vs).set j (some w)) k true k2 ∧ EvD K te ((wipeR ro vs).set j (some w)) k2 (.val d) k3 ∧ Inv (i + 1) (acc ++ [d]) k3)
    {ds : List D} {kz : Cells} (hd : ∀ acc k, Inv ws.length acc k → acc = ds ∧ k = kz) : EvN K (tLc wi (gName j) tt te vs) ro ka (.lst ds) kz := fun B F0 ta sg H Q e q => evr_lc h hj hn Inv h0 hC hs B F0 ta sg H Q e fun n k a H' ⟨acc, hn', inv⟩ e' => by
  subst hn'
  obtain ⟨rfl, rfl⟩ := hd acc k inv
  exact q a H' e'
end
end DL

/-! DE: equality of data (own work). -/
namespace DL
open PySem L2 PySem.SeqAt

mutual
def eqD : D → D → Bool
  | .non, .non => true
  | .bl a, .bl b => a == b
  | .bl a, .int j => (if a then 1 else 0) == j
  | .int i, .bl b => i == (if b then 1 else 0)
  | .int i, .int j => i == j
  | .str x, .str y => x == y
  | .lst xs, .lst ys => eqL xs ys
  | .tup xs, .tup ys => eqL xs ys
  | _, _ => false
def eqL : List D → List D → Bool
  | [], [] => true
  | x :: xs, y :: ys => eqD x y && eqL xs ys
  | _, _ => false
end
/-- plain data: numbers, texts, lists and tuples of these, at most n deep -/
def pl : Nat → D → Bool
  | _, .non => true
  | _, .bl _ => true
  | _, .int _ => true
  | _, .str _ => true
  | n + 1, .lst ds => ds.all (pl n)
  | n + 1, .tup ds => ds.all (pl n)
  | _, _ => false
theorem eqL_len : ∀ {xs ys : List D}, eqL xs ys = true → xs.length = ys.length
  | [], [], _ => rfl
  | [], _ :: _, h => by cases h
  | _ :: _, [], h => by cases h
  | x :: xs, y :: ys, h => by
    have h2 := (Bool.and_eq_true_iff.mp (show (eqD x y && eqL xs ys) = true from h)).2
    rw [List.length_cons, List.length_cons, eqL_len h2]
theorem eqL_ne {xs ys : List D} (h : xs.length ≠ ys.length) : eqL xs ys = false := by
  cases q : eqL xs ys with
  | false => rfl
  | true => exact absurd (eqL_len q) h
/-- equal item by item -/
theorem eqL_all : ∀ (xs ys : List D), xs.length = ys.length → eqL xs ys = (List.range xs.length).all fun j => eqD (xs.getD j .non) (ys.getD j .non)
  | [], [], _ => rfl
  | [], _ :: _, h => by cases h
  | _ :: _, [], h => by cases h
  | x :: xs, y :: ys, h => by
    have ih := eqL_all xs ys (by simpa using h)
    show (eqD x y && eqL xs ys) = _
    rw [ih, List.length_cons, List.range_succ_eq_map, List.all_cons, List.all_map]
    rfl
theorem eqD_refl (n : Nat) : ∀ (d : D), pl n d = true → eqD d d = true := by
  induction n with
  | zero =>
    intro d h
    cases d <;> first | rfl | exact beq_self_eq_true _ | cases h
  | succ n ih =>
    have hl : ∀ ds : List D, ds.all (pl n) = true → eqL ds ds = true := by
      intro ds
      induction ds with
      | nil => intro _; rfl
      | cons d ds ih2 =>
        intro h
        rw [List.all_cons] at h
        obtain ⟨h1, h2⟩ := Bool.and_eq_true_iff.mp h
        show (eqD d d && eqL ds ds) = true
        rw [ih d h1, ih2 h2] <;> rfl
    intro d h
    cases d with
    | lst ds => exact hl ds h
    | tup ds => exact hl ds h
    | _ => first | rfl | exact beq_self_eq_true _ | cases h
section
variable {X : Cx} {pins : List (Addr × Obj)} {sg : L2.St} {H G : Hp} {s : Shared}
/-- the same value, two readings: equal -/
theorem eqD_same (I : Inv X pins sg H s) (fz : Exz G H) (nz : Nz G) (n : Nat) : ∀ (d e : D) (v : V), pl n d = true → pl n e = true → Rp X.K G d v → Rp X.K G e v → eqD d e = true := by
  induction n with
  | zero =>
    intro d e v h1 h2 r1 r2
    cases d <;> first | (exact absurd h1 Bool.false_ne_true) | skip
    all_goals cases e <;> first | (exact absurd h2 Bool.false_ne_true) | skip
    all_goals (have q := Eq.trans (Eq.symm (show v = _ from r1)) (show v = _ from r2); first | rfl | (cases q <;> first | rfl | exact beq_self_eq_true _))
  | succ n ih =>
    have hl : ∀ (ds es : List D) (xs : List V), ds.all (pl n) = true → es.all (pl n) = true → RpL X.K G ds xs → RpL X.K G es xs → eqL ds es = true := by
      intro ds
      induction ds with
      | nil =>
        intro es xs _ _ r1 r2
        cases es with
        | nil => rfl
        | cons e es =>
          obtain ⟨x, ys, hx, _⟩ := r2
          rw [show xs = [] from r1] at hx
          cases hx
      | cons d ds ih2 =>
        intro es xs h1 h2 r1 r2
        obtain ⟨x, ys, rfl, a1, a2⟩ := r1
        cases es with
        | nil => cases (show x :: ys = [] from r2)
        | cons e es =>
          obtain ⟨x', ys', hx, b1, b2⟩ := r2
          cases hx
          rw [List.all_cons] at h1 h2
          obtain ⟨c1, c2⟩ := Bool.and_eq_true_iff.mp h1
          obtain ⟨e1, e2⟩ := Bool.and_eq_true_iff.mp h2
          show (eqD d e && eqL ds es) = true
          rw [ih d e x c1 e1 a1 b1, ih2 es ys c2 e2 a2 b2] <;> rfl
    intro d e v h1 h2 r1 r2
    cases d <;> first | (exact absurd h1 Bool.false_ne_true) | skip
    all_goals cases e <;> first | (exact absurd h2 Bool.false_ne_true) | skip
    case tup.tup ds es =>
      obtain ⟨a, xs, rfl, q1, q2⟩ := r1
      obtain ⟨a', ys, e', p1, p2⟩ := r2
      cases e'
      have hxy := I.tuple_inj (sqT_mono fz nz q1) (sqT_mono fz nz p1)
      subst hxy
      exact hl ds es xs h1 h2 q2 p2
    case lst.lst ds es =>
      obtain ⟨a, xs, rfl, q1, q2⟩ := r1
      obtain ⟨a', ys, e', p1, p2⟩ := r2
      cases e'
      have hxy := I.list_inj (.inl (fz.rd nz q1)) (.inl (fz.rd nz p1))
      subst hxy
      exact hl ds es xs h1 h2 q2 p2
    case tup.lst ds es =>
      obtain ⟨a, xs, rfl, q1, q2⟩ := r1
      obtain ⟨a', ys, e', p1, p2⟩ := r2
      cases e'
      obtain ⟨its, _, t1, _⟩ := I.tuple (sqT_mono fz nz q1)
      obtain ⟨its2, _, t2, _⟩ := I.list (.inl (fz.rd nz p1))
      exact absurd rfl (ne_of_list_tuple t2.isList t1)
    case lst.tup ds es =>
      obtain ⟨a, xs, rfl, q1, q2⟩ := r1
      obtain ⟨a', ys, e', p1, p2⟩ := r2
      cases e'
      obtain ⟨its, _, t1, _⟩ := I.tuple (sqT_mono fz nz p1)
      obtain ⟨its2, _, t2, _⟩ := I.list (.inl (fz.rd nz q1))
      exact absurd rfl (ne_of_list_tuple t2.isList t1)
    all_goals first
      | (obtain ⟨a, xs, rfl, _⟩ := r1; cases (show V.ref a = _ from r2))
      | (obtain ⟨a, xs, rfl, _⟩ := r2; cases (show V.ref a = _ from r1))
      | (have q := Eq.trans (Eq.symm (show v = _ from r1)) (show v = _ from r2); first | rfl | (cases q <;> first | rfl | exact beq_self_eq_true _))
/-- the items' equality, by place -/
theorem items_eq {n : Nat} {A : Around} (ih : ∀ (d e : D) (A : Around) (v w : V) (u u' : Value), pl n d = true → pl n e = true → Rp X.K G d v → Rp X.K G e w → RelV v u → RelV w u' → A.units + n < cLine → EqAt A s u u' (eqD d e))
    {ds es : List D} {xs ys : List V} {its its2 : List Value} (h1 : ds.all (pl n) = true) (h2 : es.all (pl n) = true) (r1 : RpL X.K G ds xs) (r2 : RpL X.K G es ys) (q1 : Vals xs its) (q2 : Vals ys its2) (hu : A.units + (n + 1) < cLine) :
    ∀ j (l1 : j < its.toArray.size) (l2 : j < its2.toArray.size), EqAt A.in1 s its.toArray[j] its2.toArray[j] (eqD (ds.getD j .non) (es.getD j .non)) := fun j l1 l2 => by
  have k1 : j < its.length := by simpa using l1
  have k2 : j < its2.length := by simpa using l2
  have m1 : j < ds.length := by rw [← rpl_len r1, q1.length]; exact k1
  have m2 : j < es.length := by rw [← rpl_len r2, q2.length]; exact k2
  obtain ⟨v, hv, rv⟩ := rpl_get r1 (List.getElem?_eq_getElem m1)
  obtain ⟨w, hw, rw2⟩ := rpl_get r2 (List.getElem?_eq_getElem m2)
  obtain ⟨u, hu1, ru⟩ := q1.get hv
  obtain ⟨u', hu2, ru'⟩ := q2.get hw
  have e1 : its.toArray[j] = u := by
    rw [List.getElem?_eq_getElem k1] at hu1
    simpa using hu1
  have e2 : its2.toArray[j] = u' := by
    rw [List.getElem?_eq_getElem k2] at hu2
    simpa using hu2
  have g1 : ds.getD j .non = ds[j] := by simp [List.getD, List.getElem?_eq_getElem m1]
  have g2 : es.getD j .non = es[j] := by simp [List.getD, List.getElem?_eq_getElem m2]
  rw [e1, e2, g1, g2]
  exact ih _ _ A.in1 v w u u' (List.all_eq_true.mp h1 _ (List.getElem_mem m1)) (List.all_eq_true.mp h2 _ (List.getElem_mem m2)) rv rw2 ru ru' (by show A.units + 1 + n < cLine; omega)
theorem list_flat {A : Around} {a : Addr} {its : Array Value} (h : s.heap.IsList a its) (hu : A.units < cLine) : ∀ {w : V} {u : Value}, RelV w u → flatV w = true → EqAt A s (.ref a) u false ∧ EqAt A s u (.ref a) false
  | .non, u, r, _ => by
    cases r
    exact ⟨EqAt.list_none h hu, EqAt.none_list h hu⟩
  | .bl b, u, r, _ => by
    cases r
    exact ⟨EqAt.list_bool b h hu, EqAt.bool_list b h hu⟩
  | .int i, u, r, _ => by
    obtain ⟨t, rfl⟩ := r
    exact ⟨EqAt.list_int i t h hu, EqAt.int_list i t h hu⟩
  | .str z, u, r, _ => by
    obtain ⟨t, rfl⟩ := r
    exact ⟨EqAt.list_str z t h hu, EqAt.str_list z t h hu⟩
  | .byt _, _, _, f => absurd f Bool.false_ne_true
  | .flt _, _, _, f => absurd f Bool.false_ne_true
  | .ref _, _, _, f => absurd f Bool.false_ne_true
  | .ty _, _, _, f => absurd f Bool.false_ne_true
theorem tup_flat {A : Around} {a : Addr} {its : Array Value} (h : s.heap.IsTuple a its) (hu : A.units < cLine) : ∀ {w : V} {u : Value}, RelV w u → flatV w = true → EqAt A s (.ref a) u false ∧ EqAt A s u (.ref a) false
  | .non, u, r, _ => by
    cases r
    exact ⟨EqAt.tuple_none h hu, EqAt.none_tuple h hu⟩
  | .bl b, u, r, _ => by
    cases r
    exact ⟨EqAt.tuple_bool b h hu, EqAt.bool_tuple b h hu⟩
  | .int i, u, r, _ => by
    obtain ⟨t, rfl⟩ := r
    exact ⟨EqAt.tuple_int i t h hu, EqAt.int_tuple i t h hu⟩
  | .str z, u, r, _ => by
    obtain ⟨t, rfl⟩ := r
    exact ⟨EqAt.tuple_str z t h hu, EqAt.str_tuple z t h hu⟩
  | .byt _, _, _, f => absurd f Bool.false_ne_true
  | .flt _, _, _, f => absurd f Bool.false_ne_true
  | .ref _, _, _, f => absurd f Bool.false_ne_true
  | .ty _, _, _, f => absurd f Bool.false_ne_true
/-- flat data -/
def fl : D → Bool
  | .non => true
  | .bl _ => true
  | .int _ => true
  | .str _ => true
  | _ => false
theorem fl_v : ∀ {d : D} {v : V}, fl d = true → Rp X.K G d v → flatV v = true
  | .non, v, _, h => by rw [show v = _ from h]; rfl
  | .bl _, v, _, h => by rw [show v = _ from h]; rfl
  | .int _, v, _, h => by rw [show v = _ from h]; rfl
  | .str _, v, _, h => by rw [show v = _ from h]; rfl
theorem fl_eq : ∀ {d e : D} {v w : V}, fl d = true → fl e = true → Rp X.K G d v → Rp X.K G e w → eqV v w = eqD d e := by
  intro d e v w h1 h2 r1 r2
  cases d <;> first | (exact absurd h1 Bool.false_ne_true) | skip
  all_goals cases e <;> first | (exact absurd h2 Bool.false_ne_true) | skip
  all_goals (have z1 := (show v = _ from r1); have z2 := (show w = _ from r2); subst z1 z2; rfl)
theorem eqAt_D (I : Inv X pins sg H s) (fz : Exz G H) (nz : Nz G) (n : Nat) : ∀ (d e : D) (A : Around) (v w : V) (u u' : Value), pl n d = true → pl n e = true → Rp X.K G d v → Rp X.K G e w → RelV v u → RelV w u' → A.units + n < cLine → EqAt A s u u' (eqD d e) := by
  have flat : ∀ (A : Around) (d e : D) (v w : V) (u u' : Value), RelV v u → RelV w u' → flatV v = true → flatV w = true → eqV v w = eqD d e → EqAt A s u u' (eqD d e) := fun A d e v w u u' r1 r2 f1 f2 q => q ▸ eqAt_V r1 r2 f1 f2
  induction n with
  | zero =>
    intro d e A v w u u' h1 h2 r1 r2 q1 q2 hu
    cases d <;> first | (exact absurd h1 Bool.false_ne_true) | skip
    all_goals cases e <;> first | (exact absurd h2 Bool.false_ne_true) | skip
    all_goals (have z1 := (show v = _ from r1); have z2 := (show w = _ from r2); subst z1 z2; exact flat A _ _ _ _ _ _ q1 q2 rfl rfl rfl)
  | succ n ih =>
    intro d e A v w u u' h1 h2 r1 r2 q1 q2 hu
    have hu0 : A.units < cLine := by omega
    have lstf : ∀ {ds : List D} {e : D}, Rp X.K G (.lst ds) v → fl e = true → Rp X.K G e w → RelV v u → RelV w u' → EqAt A s u u' false := fun {ds e} r1 f r2 q1 q2 => by
      obtain ⟨a, xs, rfl, a1, a2⟩ := r1
      cases q1
      obtain ⟨its, t1, t2, _⟩ := I.list (.inl (fz.rd nz a1))
      exact (list_flat t2.isList hu0 q2 (fl_v f r2)).1
    have tupf : ∀ {ds : List D} {e : D}, Rp X.K G (.tup ds) v → fl e = true → Rp X.K G e w → RelV v u → RelV w u' → EqAt A s u u' false := fun {ds e} r1 f r2 q1 q2 => by
      obtain ⟨a, xs, rfl, a1, a2⟩ := r1
      cases q1
      obtain ⟨its, t1, t2, _⟩ := I.tuple (sqT_mono fz nz a1)
      exact (tup_flat t2 hu0 q2 (fl_v f r2)).1
    have flst : ∀ {ds : List D} {e : D}, Rp X.K G e v → fl e = true → Rp X.K G (.lst ds) w → RelV v u → RelV w u' → EqAt A s u u' false := fun {ds e} r1 f r2 q1 q2 => by
      obtain ⟨a, xs, rfl, a1, a2⟩ := r2
      cases q2
      obtain ⟨its, t1, t2, _⟩ := I.list (.inl (fz.rd nz a1))
      exact (list_flat t2.isList hu0 q1 (fl_v f r1)).2
    have ftup : ∀ {ds : List D} {e : D}, Rp X.K G e v → fl e = true → Rp X.K G (.tup ds) w → RelV v u → RelV w u' → EqAt A s u u' false := fun {ds e} r1 f r2 q1 q2 => by
      obtain ⟨a, xs, rfl, a1, a2⟩ := r2
      cases q2
      obtain ⟨its, t1, t2, _⟩ := I.tuple (sqT_mono fz nz a1)
      exact (tup_flat t2 hu0 q1 (fl_v f r1)).2
    cases d <;> first | (exact absurd h1 Bool.false_ne_true) | skip
    all_goals cases e <;> first | (exact absurd h2 Bool.false_ne_true) | skip
    case lst.lst ds es =>
      by_cases hab : v = w
      · subst hab
        have hue : u = u' := by
          obtain ⟨a, xs, rfl, _⟩ := r1
          rw [show u = Value.ref a from q1, show u' = Value.ref a from q2]
        subst hue
        rw [eqD_same I fz nz (n + 1) _ _ v h1 h2 r1 r2]
        exact EqAt.same _
      · obtain ⟨a, xs, rfl, a1, a2⟩ := r1
        obtain ⟨b, ys, rfl, b1, b2⟩ := r2
        cases q1
        cases q2
        obtain ⟨its, t1, t2, _⟩ := I.list (.inl (fz.rd nz a1))
        obtain ⟨its2, t3, t4, _⟩ := I.list (.inl (fz.rd nz b1))
        have l1 : its.toArray.size = ds.length := by rw [List.size_toArray, ← t1.length, rpl_len a2]
        have l2 : its2.toArray.size = es.length := by rw [List.size_toArray, ← t3.length, rpl_len b2]
        show EqAt A s _ _ (eqL ds es)
        by_cases hl : ds.length = es.length
        · rw [eqL_all ds es hl, ← l1]
          exact EqAt.of_refs (fun z => hab (by rw [z])) (RcAt.lists t2.isList t4.isList (by omega) hu0 (items_eq ih h1 h2 a2 b2 t1 t3 hu))
        · rw [eqL_ne hl]
          exact EqAt.of_refs (fun z => hab (by rw [z])) (RcAt.lists_lengths t2.isList t4.isList (by simp only [bne_iff_ne]; omega) hu0)
    case tup.tup ds es =>
      by_cases hab : v = w
      · subst hab
        have hue : u = u' := by
          obtain ⟨a, xs, rfl, _⟩ := r1
          rw [show u = Value.ref a from q1, show u' = Value.ref a from q2]
        subst hue
        rw [eqD_same I fz nz (n + 1) _ _ v h1 h2 r1 r2]
        exact EqAt.same _
      · obtain ⟨a, xs, rfl, a1, a2⟩ := r1
        obtain ⟨b, ys, rfl, b1, b2⟩ := r2
        cases q1
        cases q2
        obtain ⟨its, t1, t2, _⟩ := I.tuple (sqT_mono fz nz a1)
        obtain ⟨its2, t3, t4, _⟩ := I.tuple (sqT_mono fz nz b1)
        have l1 : its.toArray.size = ds.length := by rw [List.size_toArray, ← t1.length, rpl_len a2]
        have l2 : its2.toArray.size = es.length := by rw [List.size_toArray, ← t3.length, rpl_len b2]
        have main := RcAt.tuples t2 t4 hu0 (items_eq ih h1 h2 a2 b2 t1 t3 hu)
        have key : ((List.range (min its.toArray.size its2.toArray.size)).all (fun j => eqD (ds.getD j .non) (es.getD j .non)) && its.toArray.size == its2.toArray.size) = eqL ds es := by
          by_cases hl : ds.length = es.length
          · rw [eqL_all ds es hl, l1, l2, hl]
            simp
          · rw [eqL_ne hl, l1, l2]
            simp [hl]
        rw [key] at main
        exact EqAt.of_refs (fun z => hab (by rw [z])) main
    case lst.tup ds es =>
      obtain ⟨a, xs, rfl, a1, a2⟩ := r1
      obtain ⟨b, ys, rfl, b1, b2⟩ := r2
      cases q1
      cases q2
      obtain ⟨its, t1, t2, _⟩ := I.list (.inl (fz.rd nz a1))
      obtain ⟨its2, t3, t4, _⟩ := I.tuple (sqT_mono fz nz b1)
      exact EqAt.list_tuple t2.isList t4 hu0
    case tup.lst ds es =>
      obtain ⟨a, xs, rfl, a1, a2⟩ := r1
      obtain ⟨b, ys, rfl, b1, b2⟩ := r2
      cases q1
      cases q2
      obtain ⟨its, t1, t2, _⟩ := I.tuple (sqT_mono fz nz a1)
      obtain ⟨its2, t3, t4, _⟩ := I.list (.inl (fz.rd nz b1))
      exact EqAt.tuple_list t2 t4.isList hu0
    case lst.non => exact lstf r1 rfl r2 q1 q2
    case lst.bl => exact lstf r1 rfl r2 q1 q2
    case lst.int => exact lstf r1 rfl r2 q1 q2
    case lst.str => exact lstf r1 rfl r2 q1 q2
    case tup.non => exact tupf r1 rfl r2 q1 q2
    case tup.bl => exact tupf r1 rfl r2 q1 q2
    case tup.int => exact tupf r1 rfl r2 q1 q2
    case tup.str => exact tupf r1 rfl r2 q1 q2
    case non.lst => exact flst r1 rfl r2 q1 q2
    case bl.lst => exact flst r1 rfl r2 q1 q2
    case int.lst => exact flst r1 rfl r2 q1 q2
    case str.lst => exact flst r1 rfl r2 q1 q2
    case non.tup => exact ftup r1 rfl r2 q1 q2
    case bl.tup => exact ftup r1 rfl r2 q1 q2
    case int.tup => exact ftup r1 rfl r2 q1 q2
    case str.tup => exact ftup r1 rfl r2 q1 q2
    all_goals (have z1 := (show v = _ from r1); have z2 := (show w = _ from r2); subst z1 z2; exact flat A _ _ _ _ _ _ q1 q2 rfl rfl rfl)
end
end DL

/-! DQ: == and != of data, at the top (printed by gen_eq.py, own work). -/
namespace DL
open PySem L2 PySem.SeqAt
section
variable {X : Cx} {pins : List (Addr × Obj)} {sg : L2.St} {H G : Hp} {s : Shared}

theorem rc_flat {A : Around} : ∀ {v w : V} {u u' : Value}, RelV v u → RelV w u' → flatV v = true → flatV w = true → RcAt A s u u' (eqV v w)
  | .non, .non, u, u', r1, r2, _, _ => by
    cases r1
    cases r2
    exact RcAt.none_none
  | .non, .bl b2, u, u', r1, r2, _, _ => by
    cases r1
    cases r2
    exact RcAt.none_bool b2
  | .non, .int i2, u, u', r1, r2, _, _ => by
    cases r1
    obtain ⟨t2, rfl⟩ := r2
    exact RcAt.none_int i2 t2
  | .non, .str z2, u, u', r1, r2, _, _ => by
    cases r1
    obtain ⟨t2, rfl⟩ := r2
    exact RcAt.none_str z2 t2
  | .bl b1, .non, u, u', r1, r2, _, _ => by
    cases r1
    cases r2
    exact RcAt.bool_none b1
  | .bl b1, .bl b2, u, u', r1, r2, _, _ => by
    cases r1
    cases r2
    exact RcAt.bool_bool b1 b2
  | .bl b1, .int i2, u, u', r1, r2, _, _ => by
    cases r1
    obtain ⟨t2, rfl⟩ := r2
    exact RcAt.bool_int b1 i2 t2
  | .bl b1, .str z2, u, u', r1, r2, _, _ => by
    cases r1
    obtain ⟨t2, rfl⟩ := r2
    exact RcAt.bool_str b1 z2 t2
  | .int i1, .non, u, u', r1, r2, _, _ => by
    obtain ⟨t1, rfl⟩ := r1
    cases r2
    exact RcAt.int_none i1 t1
  | .int i1, .bl b2, u, u', r1, r2, _, _ => by
    obtain ⟨t1, rfl⟩ := r1
    cases r2
    exact RcAt.int_bool i1 t1 b2
  | .int i1, .int i2, u, u', r1, r2, _, _ => by
    obtain ⟨t1, rfl⟩ := r1
    obtain ⟨t2, rfl⟩ := r2
    exact RcAt.int_int i1 t1 i2 t2
  | .int i1, .str z2, u, u', r1, r2, _, _ => by
    obtain ⟨t1, rfl⟩ := r1
    obtain ⟨t2, rfl⟩ := r2
    exact RcAt.int_str i1 t1 z2 t2
  | .str z1, .non, u, u', r1, r2, _, _ => by
    obtain ⟨t1, rfl⟩ := r1
    cases r2
    exact RcAt.str_none z1 t1
  | .str z1, .bl b2, u, u', r1, r2, _, _ => by
    obtain ⟨t1, rfl⟩ := r1
    cases r2
    exact RcAt.str_bool z1 t1 b2
  | .str z1, .int i2, u, u', r1, r2, _, _ => by
    obtain ⟨t1, rfl⟩ := r1
    obtain ⟨t2, rfl⟩ := r2
    exact RcAt.str_int z1 t1 i2 t2
  | .str z1, .str z2, u, u', r1, r2, _, _ => by
    obtain ⟨t1, rfl⟩ := r1
    obtain ⟨t2, rfl⟩ := r2
    exact RcAt.str_str z1 t1 z2 t2
  | .byt _, _, _, _, _, _, f, _ => absurd f Bool.false_ne_true
  | .flt _, _, _, _, _, _, f, _ => absurd f Bool.false_ne_true
  | .ref _, _, _, _, _, _, f, _ => absurd f Bool.false_ne_true
  | .ty _, _, _, _, _, _, f, _ => absurd f Bool.false_ne_true
  | .non, .byt _, _, _, _, _, _, f => absurd f Bool.false_ne_true
  | .bl _, .byt _, _, _, _, _, _, f => absurd f Bool.false_ne_true
  | .int _, .byt _, _, _, _, _, _, f => absurd f Bool.false_ne_true
  | .str _, .byt _, _, _, _, _, _, f => absurd f Bool.false_ne_true
  | .non, .flt _, _, _, _, _, _, f => absurd f Bool.false_ne_true
  | .bl _, .flt _, _, _, _, _, _, f => absurd f Bool.false_ne_true
  | .int _, .flt _, _, _, _, _, _, f => absurd f Bool.false_ne_true
  | .str _, .flt _, _, _, _, _, _, f => absurd f Bool.false_ne_true
  | .non, .ref _, _, _, _, _, _, f => absurd f Bool.false_ne_true
  | .bl _, .ref _, _, _, _, _, _, f => absurd f Bool.false_ne_true
  | .int _, .ref _, _, _, _, _, _, f => absurd f Bool.false_ne_true
  | .str _, .ref _, _, _, _, _, _, f => absurd f Bool.false_ne_true
  | .non, .ty _, _, _, _, _, _, f => absurd f Bool.false_ne_true
  | .bl _, .ty _, _, _, _, _, _, f => absurd f Bool.false_ne_true
  | .int _, .ty _, _, _, _, _, _, f => absurd f Bool.false_ne_true
  | .str _, .ty _, _, _, _, _, _, f => absurd f Bool.false_ne_true
theorem rc_list {A : Around} {a : Addr} {its : Array Value} (h : s.heap.IsList a its) (hu : A.units < cLine) : ∀ {w : V} {u : Value}, RelV w u → flatV w = true → RcAt A s (.ref a) u false ∧ RcAt A s u (.ref a) false
  | .non, u, r, _ => by
    cases r
    exact ⟨RcAt.list_none h hu, RcAt.none_list h hu⟩
  | .bl b2, u, r, _ => by
    cases r
    exact ⟨RcAt.list_bool b2 h hu, RcAt.bool_list b2 h hu⟩
  | .int i2, u, r, _ => by
    obtain ⟨t2, rfl⟩ := r
    exact ⟨RcAt.list_int i2 t2 h hu, RcAt.int_list i2 t2 h hu⟩
  | .str z2, u, r, _ => by
    obtain ⟨t2, rfl⟩ := r
    exact ⟨RcAt.list_str z2 t2 h hu, RcAt.str_list z2 t2 h hu⟩
  | .byt _, _, _, f => absurd f Bool.false_ne_true
  | .flt _, _, _, f => absurd f Bool.false_ne_true
  | .ref _, _, _, f => absurd f Bool.false_ne_true
  | .ty _, _, _, f => absurd f Bool.false_ne_true
theorem rc_tuple {A : Around} {a : Addr} {its : Array Value} (h : s.heap.IsTuple a its) (hu : A.units < cLine) : ∀ {w : V} {u : Value}, RelV w u → flatV w = true → RcAt A s (.ref a) u false ∧ RcAt A s u (.ref a) false
  | .non, u, r, _ => by
    cases r
    exact ⟨RcAt.tuple_none h hu, RcAt.none_tuple h hu⟩
  | .bl b2, u, r, _ => by
    cases r
    exact ⟨RcAt.tuple_bool b2 h hu, RcAt.bool_tuple b2 h hu⟩
  | .int i2, u, r, _ => by
    obtain ⟨t2, rfl⟩ := r
    exact ⟨RcAt.tuple_int i2 t2 h hu, RcAt.int_tuple i2 t2 h hu⟩
  | .str z2, u, r, _ => by
    obtain ⟨t2, rfl⟩ := r
    exact ⟨RcAt.tuple_str z2 t2 h hu, RcAt.str_tuple z2 t2 h hu⟩
  | .byt _, _, _, f => absurd f Bool.false_ne_true
  | .flt _, _, _, f => absurd f Bool.false_ne_true
  | .ref _, _, _, f => absurd f Bool.false_ne_true
  | .ty _, _, _, f => absurd f Bool.false_ne_true
theorem rc_D (I : Inv X pins sg H s) (fz : Exz G H) (nz : Nz G) (n : Nat) (d e : D) (A : Around) (v w : V) (u u' : Value) (h1 : pl (n + 1) d = true) (h2 : pl (n + 1) e = true) (r1 : Rp X.K G d v) (r2 : Rp X.K G e w) (q1 : RelV v u) (q2 : RelV w u') (hu : A.units + (n + 1) < cLine) : RcAt A s u u' (eqD d e) := by
  have hu0 : A.units < cLine := by omega
  have ih := eqAt_D (X := X) I fz nz n
  have lstf : ∀ {ds : List D} {e : D}, Rp X.K G (.lst ds) v → fl e = true → Rp X.K G e w → RcAt A s u u' false := fun {ds e} r1 f r2 => by
    obtain ⟨a, xs, rfl, a1, a2⟩ := r1
    cases q1
    obtain ⟨its, t1, t2, _⟩ := I.list (.inl (fz.rd nz a1))
    exact (rc_list t2.isList hu0 q2 (fl_v f r2)).1
  have tupf : ∀ {ds : List D} {e : D}, Rp X.K G (.tup ds) v → fl e = true → Rp X.K G e w → RcAt A s u u' false := fun {ds e} r1 f r2 => by
    obtain ⟨a, xs, rfl, a1, a2⟩ := r1
    cases q1
    obtain ⟨its, t1, t2, _⟩ := I.tuple (sqT_mono fz nz a1)
    exact (rc_tuple t2 hu0 q2 (fl_v f r2)).1
  have flst : ∀ {ds : List D} {e : D}, Rp X.K G e v → fl e = true → Rp X.K G (.lst ds) w → RcAt A s u u' false := fun {ds e} r1 f r2 => by
    obtain ⟨a, xs, rfl, a1, a2⟩ := r2
    cases q2
    obtain ⟨its, t1, t2, _⟩ := I.list (.inl (fz.rd nz a1))
    exact (rc_list t2.isList hu0 q1 (fl_v f r1)).2
  have ftup : ∀ {ds : List D} {e : D}, Rp X.K G e v → fl e = true → Rp X.K G (.tup ds) w → RcAt A s u u' false := fun {ds e} r1 f r2 => by
    obtain ⟨a, xs, rfl, a1, a2⟩ := r2
    cases q2
    obtain ⟨its, t1, t2, _⟩ := I.tuple (sqT_mono fz nz a1)
    exact (rc_tuple t2 hu0 q1 (fl_v f r1)).2
  have flat : ∀ {d e : D}, fl d = true → fl e = true → Rp X.K G d v → Rp X.K G e w → RcAt A s u u' (eqD d e) := fun {d e} f1 f2 r1 r2 => by
    have z := rc_flat (A := A) (s := s) q1 q2 (fl_v f1 r1) (fl_v f2 r2)
    rw [fl_eq f1 f2 r1 r2] at z
    exact z
  cases d <;> first | (exact absurd h1 Bool.false_ne_true) | skip
  all_goals cases e <;> first | (exact absurd h2 Bool.false_ne_true) | skip
  case lst.lst ds es =>
    obtain ⟨a, xs, rfl, a1, a2⟩ := r1
    obtain ⟨b, ys, rfl, b1, b2⟩ := r2
    cases q1
    cases q2
    obtain ⟨its, t1, t2, _⟩ := I.list (.inl (fz.rd nz a1))
    obtain ⟨its2, t3, t4, _⟩ := I.list (.inl (fz.rd nz b1))
    have l1 : its.toArray.size = ds.length := by rw [List.size_toArray, ← t1.length, rpl_len a2]
    have l2 : its2.toArray.size = es.length := by rw [List.size_toArray, ← t3.length, rpl_len b2]
    show RcAt A s _ _ (eqL ds es)
    by_cases hl : ds.length = es.length
    · rw [eqL_all ds es hl, ← l1]
      exact RcAt.lists t2.isList t4.isList (by omega) hu0 (items_eq ih h1 h2 a2 b2 t1 t3 hu)
    · rw [eqL_ne hl]
      exact RcAt.lists_lengths t2.isList t4.isList (by simp only [bne_iff_ne]; omega) hu0
  case tup.tup ds es =>
    obtain ⟨a, xs, rfl, a1, a2⟩ := r1
    obtain ⟨b, ys, rfl, b1, b2⟩ := r2
    cases q1
    cases q2
    obtain ⟨its, t1, t2, _⟩ := I.tuple (sqT_mono fz nz a1)
    obtain ⟨its2, t3, t4, _⟩ := I.tuple (sqT_mono fz nz b1)
    have l1 : its.toArray.size = ds.length := by rw [List.size_toArray, ← t1.length, rpl_len a2]
    have l2 : its2.toArray.size = es.length := by rw [List.size_toArray, ← t3.length, rpl_len b2]
    have main := RcAt.tuples t2 t4 hu0 (items_eq ih h1 h2 a2 b2 t1 t3 hu)
    have key : ((List.range (min its.toArray.size its2.toArray.size)).all (fun j => eqD (ds.getD j .non) (es.getD j .non)) && its.toArray.size == its2.toArray.size) = eqL ds es := by
      by_cases hl : ds.length = es.length
      · rw [eqL_all ds es hl, l1, l2, hl]
        simp
      · rw [eqL_ne hl, l1, l2]
        simp [hl]
    rw [key] at main
    exact main
  case lst.tup ds es =>
    obtain ⟨a, xs, rfl, a1, a2⟩ := r1
    obtain ⟨b, ys, rfl, b1, b2⟩ := r2
    cases q1
    cases q2
    obtain ⟨its, t1, t2, _⟩ := I.list (.inl (fz.rd nz a1))
    obtain ⟨its2, t3, t4, _⟩ := I.tuple (sqT_mono fz nz b1)
    exact RcAt.list_tuple t2.isList t4 hu0
  case tup.lst ds es =>
    obtain ⟨a, xs, rfl, a1, a2⟩ := r1
    obtain ⟨b, ys, rfl, b1, b2⟩ := r2
    cases q1
    cases q2
    obtain ⟨its, t1, t2, _⟩ := I.tuple (sqT_mono fz nz a1)
    obtain ⟨its2, t3, t4, _⟩ := I.list (.inl (fz.rd nz b1))
    exact RcAt.tuple_list t2 t4.isList hu0
  case lst.non => exact lstf r1 rfl r2
  case tup.non => exact tupf r1 rfl r2
  case non.lst => exact flst r1 rfl r2
  case non.tup => exact ftup r1 rfl r2
  case lst.bl => exact lstf r1 rfl r2
  case tup.bl => exact tupf r1 rfl r2
  case bl.lst => exact flst r1 rfl r2
  case bl.tup => exact ftup r1 rfl r2
  case lst.int => exact lstf r1 rfl r2
  case tup.int => exact tupf r1 rfl r2
  case int.lst => exact flst r1 rfl r2
  case int.tup => exact ftup r1 rfl r2
  case lst.str => exact lstf r1 rfl r2
  case tup.str => exact tupf r1 rfl r2
  case str.lst => exact flst r1 rfl r2
  case str.tup => exact ftup r1 rfl r2
  all_goals exact flat rfl rfl r1 r2
theorem rn_flat {A : Around} : ∀ {v w : V} {u u' : Value}, RelV v u → RelV w u' → flatV v = true → flatV w = true → RcNeAt A s u u' (!eqV v w)
  | .non, .non, u, u', r1, r2, _, _ => by
    cases r1
    cases r2
    exact RcNeAt.none_none
  | .non, .bl b2, u, u', r1, r2, _, _ => by
    cases r1
    cases r2
    exact RcNeAt.none_bool b2
  | .non, .int i2, u, u', r1, r2, _, _ => by
    cases r1
    obtain ⟨t2, rfl⟩ := r2
    exact RcNeAt.none_int i2 t2
  | .non, .str z2, u, u', r1, r2, _, _ => by
    cases r1
    obtain ⟨t2, rfl⟩ := r2
    exact RcNeAt.none_str z2 t2
  | .bl b1, .non, u, u', r1, r2, _, _ => by
    cases r1
    cases r2
    exact RcNeAt.bool_none b1
  | .bl b1, .bl b2, u, u', r1, r2, _, _ => by
    cases r1
    cases r2
    exact RcNeAt.bool_bool b1 b2
  | .bl b1, .int i2, u, u', r1, r2, _, _ => by
    cases r1
    obtain ⟨t2, rfl⟩ := r2
    exact RcNeAt.bool_int b1 i2 t2
  | .bl b1, .str z2, u, u', r1, r2, _, _ => by
    cases r1
    obtain ⟨t2, rfl⟩ := r2
    exact RcNeAt.bool_str b1 z2 t2
  | .int i1, .non, u, u', r1, r2, _, _ => by
    obtain ⟨t1, rfl⟩ := r1
    cases r2
    exact RcNeAt.int_none i1 t1
  | .int i1, .bl b2, u, u', r1, r2, _, _ => by
    obtain ⟨t1, rfl⟩ := r1
    cases r2
    exact RcNeAt.int_bool i1 t1 b2
  | .int i1, .int i2, u, u', r1, r2, _, _ => by
    obtain ⟨t1, rfl⟩ := r1
    obtain ⟨t2, rfl⟩ := r2
    exact RcNeAt.int_int i1 t1 i2 t2
  | .int i1, .str z2, u, u', r1, r2, _, _ => by
    obtain ⟨t1, rfl⟩ := r1
    obtain ⟨t2, rfl⟩ := r2
    exact RcNeAt.int_str i1 t1 z2 t2
  | .str z1, .non, u, u', r1, r2, _, _ => by
    obtain ⟨t1, rfl⟩ := r1
    cases r2
    exact RcNeAt.str_none z1 t1
  | .str z1, .bl b2, u, u', r1, r2, _, _ => by
    obtain ⟨t1, rfl⟩ := r1
    cases r2
    exact RcNeAt.str_bool z1 t1 b2
  | .str z1, .int i2, u, u', r1, r2, _, _ => by
    obtain ⟨t1, rfl⟩ := r1
    obtain ⟨t2, rfl⟩ := r2
    exact RcNeAt.str_int z1 t1 i2 t2
  | .str z1, .str z2, u, u', r1, r2, _, _ => by
    obtain ⟨t1, rfl⟩ := r1
    obtain ⟨t2, rfl⟩ := r2
    exact RcNeAt.str_str z1 t1 z2 t2
  | .byt _, _, _, _, _, _, f, _ => absurd f Bool.false_ne_true
  | .flt _, _, _, _, _, _, f, _ => absurd f Bool.false_ne_true
  | .ref _, _, _, _, _, _, f, _ => absurd f Bool.false_ne_true
  | .ty _, _, _, _, _, _, f, _ => absurd f Bool.false_ne_true
  | .non, .byt _, _, _, _, _, _, f => absurd f Bool.false_ne_true
  | .bl _, .byt _, _, _, _, _, _, f => absurd f Bool.false_ne_true
  | .int _, .byt _, _, _, _, _, _, f => absurd f Bool.false_ne_true
  | .str _, .byt _, _, _, _, _, _, f => absurd f Bool.false_ne_true
  | .non, .flt _, _, _, _, _, _, f => absurd f Bool.false_ne_true
  | .bl _, .flt _, _, _, _, _, _, f => absurd f Bool.false_ne_true
  | .int _, .flt _, _, _, _, _, _, f => absurd f Bool.false_ne_true
  | .str _, .flt _, _, _, _, _, _, f => absurd f Bool.false_ne_true
  | .non, .ref _, _, _, _, _, _, f => absurd f Bool.false_ne_true
  | .bl _, .ref _, _, _, _, _, _, f => absurd f Bool.false_ne_true
  | .int _, .ref _, _, _, _, _, _, f => absurd f Bool.false_ne_true
  | .str _, .ref _, _, _, _, _, _, f => absurd f Bool.false_ne_true
  | .non, .ty _, _, _, _, _, _, f => absurd f Bool.false_ne_true
  | .bl _, .ty _, _, _, _, _, _, f => absurd f Bool.false_ne_true
  | .int _, .ty _, _, _, _, _, _, f => absurd f Bool.false_ne_true
  | .str _, .ty _, _, _, _, _, _, f => absurd f Bool.false_ne_true
theorem rn_list {A : Around} {a : Addr} {its : Array Value} (h : s.heap.IsList a its) (hu : A.units < cLine) : ∀ {w : V} {u : Value}, RelV w u → flatV w = true → RcNeAt A s (.ref a) u true ∧ RcNeAt A s u (.ref a) true
  | .non, u, r, _ => by
    cases r
    exact ⟨RcNeAt.list_none h hu, RcNeAt.none_list h hu⟩
  | .bl b2, u, r, _ => by
    cases r
    exact ⟨RcNeAt.list_bool b2 h hu, RcNeAt.bool_list b2 h hu⟩
  | .int i2, u, r, _ => by
    obtain ⟨t2, rfl⟩ := r
    exact ⟨RcNeAt.list_int i2 t2 h hu, RcNeAt.int_list i2 t2 h hu⟩
  | .str z2, u, r, _ => by
    obtain ⟨t2, rfl⟩ := r
    exact ⟨RcNeAt.list_str z2 t2 h hu, RcNeAt.str_list z2 t2 h hu⟩
  | .byt _, _, _, f => absurd f Bool.false_ne_true
  | .flt _, _, _, f => absurd f Bool.false_ne_true
  | .ref _, _, _, f => absurd f Bool.false_ne_true
  | .ty _, _, _, f => absurd f Bool.false_ne_true
theorem rn_tuple {A : Around} {a : Addr} {its : Array Value} (h : s.heap.IsTuple a its) (hu : A.units < cLine) : ∀ {w : V} {u : Value}, RelV w u → flatV w = true → RcNeAt A s (.ref a) u true ∧ RcNeAt A s u (.ref a) true
  | .non, u, r, _ => by
    cases r
    exact ⟨RcNeAt.tuple_none h hu, RcNeAt.none_tuple h hu⟩
  | .bl b2, u, r, _ => by
    cases r
    exact ⟨RcNeAt.tuple_bool b2 h hu, RcNeAt.bool_tuple b2 h hu⟩
  | .int i2, u, r, _ => by
    obtain ⟨t2, rfl⟩ := r
    exact ⟨RcNeAt.tuple_int i2 t2 h hu, RcNeAt.int_tuple i2 t2 h hu⟩
  | .str z2, u, r, _ => by
    obtain ⟨t2, rfl⟩ := r
    exact ⟨RcNeAt.tuple_str z2 t2 h hu, RcNeAt.str_tuple z2 t2 h hu⟩
  | .byt _, _, _, f => absurd f Bool.false_ne_true
  | .flt _, _, _, f => absurd f Bool.false_ne_true
  | .ref _, _, _, f => absurd f Bool.false_ne_true
  | .ty _, _, _, f => absurd f Bool.false_ne_true
theorem rn_D (I : Inv X pins sg H s) (fz : Exz G H) (nz : Nz G) (n : Nat) (d e : D) (A : Around) (v w : V) (u u' : Value) (h1 : pl (n + 1) d = true) (h2 : pl (n + 1) e = true) (r1 : Rp X.K G d v) (r2 : Rp X.K G e w) (q1 : RelV v u) (q2 : RelV w u') (hu : A.units + (n + 1) < cLine) : RcNeAt A s u u' (!eqD d e) := by
  have hu0 : A.units < cLine := by omega
  have ih := eqAt_D (X := X) I fz nz n
  have lstf : ∀ {ds : List D} {e : D}, Rp X.K G (.lst ds) v → fl e = true → Rp X.K G e w → RcNeAt A s u u' true := fun {ds e} r1 f r2 => by
    obtain ⟨a, xs, rfl, a1, a2⟩ := r1
    cases q1
    obtain ⟨its, t1, t2, _⟩ := I.list (.inl (fz.rd nz a1))
    exact (rn_list t2.isList hu0 q2 (fl_v f r2)).1
  have tupf : ∀ {ds : List D} {e : D}, Rp X.K G (.tup ds) v → fl e = true → Rp X.K G e w → RcNeAt A s u u' true := fun {ds e} r1 f r2 => by
    obtain ⟨a, xs, rfl, a1, a2⟩ := r1
    cases q1
    obtain ⟨its, t1, t2, _⟩ := I.tuple (sqT_mono fz nz a1)
    exact (rn_tuple t2 hu0 q2 (fl_v f r2)).1
  have flst : ∀ {ds : List D} {e : D}, Rp X.K G e v → fl e = true → Rp X.K G (.lst ds) w → RcNeAt A s u u' true := fun {ds e} r1 f r2 => by
    obtain ⟨a, xs, rfl, a1, a2⟩ := r2
    cases q2
    obtain ⟨its, t1, t2, _⟩ := I.list (.inl (fz.rd nz a1))
    exact (rn_list t2.isList hu0 q1 (fl_v f r1)).2
  have ftup : ∀ {ds : List D} {e : D}, Rp X.K G e v → fl e = true → Rp X.K G (.tup ds) w → RcNeAt A s u u' true := fun {ds e} r1 f r2 => by
    obtain ⟨a, xs, rfl, a1, a2⟩ := r2
    cases q2
    obtain ⟨its, t1, t2, _⟩ := I.tuple (sqT_mono fz nz a1)
    exact (rn_tuple t2 hu0 q1 (fl_v f r1)).2
  have flat : ∀ {d e : D}, fl d = true → fl e = true → Rp X.K G d v → Rp X.K G e w → RcNeAt A s u u' (!eqD d e) := fun {d e} f1 f2 r1 r2 => by
    have z := rn_flat (A := A) (s := s) q1 q2 (fl_v f1 r1) (fl_v f2 r2)
    rw [fl_eq f1 f2 r1 r2] at z
    exact z
  cases d <;> first | (exact absurd h1 Bool.false_ne_true) | skip
  all_goals cases e <;> first | (exact absurd h2 Bool.false_ne_true) | skip
  case lst.lst ds es =>
    obtain ⟨a, xs, rfl, a1, a2⟩ := r1
    obtain ⟨b, ys, rfl, b1, b2⟩ := r2
    cases q1
    cases q2
    obtain ⟨its, t1, t2, _⟩ := I.list (.inl (fz.rd nz a1))
    obtain ⟨its2, t3, t4, _⟩ := I.list (.inl (fz.rd nz b1))
    have l1 : its.toArray.size = ds.length := by rw [List.size_toArray, ← t1.length, rpl_len a2]
    have l2 : its2.toArray.size = es.length := by rw [List.size_toArray, ← t3.length, rpl_len b2]
    show RcNeAt A s _ _ (!eqL ds es)
    by_cases hl : ds.length = es.length
    · rw [eqL_all ds es hl, ← l1]
      exact RcNeAt.lists t2.isList t4.isList (by omega) hu0 (items_eq ih h1 h2 a2 b2 t1 t3 hu)
    · rw [eqL_ne hl]
      exact RcNeAt.lists_lengths t2.isList t4.isList (by simp only [bne_iff_ne]; omega) hu0
  case tup.tup ds es =>
    obtain ⟨a, xs, rfl, a1, a2⟩ := r1
    obtain ⟨b, ys, rfl, b1, b2⟩ := r2
    cases q1
    cases q2
    obtain ⟨its, t1, t2, _⟩ := I.tuple (sqT_mono fz nz a1)
    obtain ⟨its2, t3, t4, _⟩ := I.tuple (sqT_mono fz nz b1)
    have l1 : its.toArray.size = ds.length := by rw [List.size_toArray, ← t1.length, rpl_len a2]
    have l2 : its2.toArray.size = es.length := by rw [List.size_toArray, ← t3.length, rpl_len b2]
    have main := RcNeAt.tuples t2 t4 hu0 (items_eq ih h1 h2 a2 b2 t1 t3 hu)
    have key : ((List.range (min its.toArray.size its2.toArray.size)).all (fun j => eqD (ds.getD j .non) (es.getD j .non)) && its.toArray.size == its2.toArray.size) = eqL ds es := by
      by_cases hl : ds.length = es.length
      · rw [eqL_all ds es hl, l1, l2, hl]
        simp
      · rw [eqL_ne hl, l1, l2]
        simp [hl]
    rw [key] at main
    exact main
  case lst.tup ds es =>
    obtain ⟨a, xs, rfl, a1, a2⟩ := r1
    obtain ⟨b, ys, rfl, b1, b2⟩ := r2
    cases q1
    cases q2
    obtain ⟨its, t1, t2, _⟩ := I.list (.inl (fz.rd nz a1))
    obtain ⟨its2, t3, t4, _⟩ := I.tuple (sqT_mono fz nz b1)
    exact RcNeAt.list_tuple t2.isList t4 hu0
  case tup.lst ds es =>
    obtain ⟨a, xs, rfl, a1, a2⟩ := r1
    obtain ⟨b, ys, rfl, b1, b2⟩ := r2
    cases q1
    cases q2
    obtain ⟨its, t1, t2, _⟩ := I.tuple (sqT_mono fz nz a1)
    obtain ⟨its2, t3, t4, _⟩ := I.list (.inl (fz.rd nz b1))
    exact RcNeAt.tuple_list t2 t4.isList hu0
  case lst.non => exact lstf r1 rfl r2
  case tup.non => exact tupf r1 rfl r2
  case non.lst => exact flst r1 rfl r2
  case non.tup => exact ftup r1 rfl r2
  case lst.bl => exact lstf r1 rfl r2
  case tup.bl => exact tupf r1 rfl r2
  case bl.lst => exact flst r1 rfl r2
  case bl.tup => exact ftup r1 rfl r2
  case lst.int => exact lstf r1 rfl r2
  case tup.int => exact tupf r1 rfl r2
  case int.lst => exact flst r1 rfl r2
  case int.tup => exact ftup r1 rfl r2
  case lst.str => exact lstf r1 rfl r2
  case tup.str => exact tupf r1 rfl r2
  case str.lst => exact flst r1 rfl r2
  case str.tup => exact ftup r1 rfl r2
  all_goals exact flat rfl rfl r1 r2
/-- == and != of plain data -/
def rEqP (K : PySem.W.Frag) (neg : Bool) : R2 := fun x y H Q => ∃ (n : Nat) (G : Hp) (d e : D), Exz G H ∧ Nz G ∧ n ≤ 60 ∧ pl (n + 1) d = true ∧ pl (n + 1) e = true ∧ Rp K G d x ∧ Rp K G e y ∧ Q (.bl (if neg then !eqD d e else eqD d e)) H
theorem op_eqP (hu : X.A.units + 64 < cLine) : OpR X (compareOp .Eq) (rEqP X.K false) := by
  intro pins s sg H x y v u Q I rx ry h
  obtain ⟨n, G, d, e, fz, nz, hn, p1, p2, r1, r2, q⟩ := h
  exact rc_D I fz nz n d e X.A x y v u p1 p2 r1 r2 rx ry (by omega) X.prog X.w X.xe _ ⟨.bl _, H, I, rfl, q⟩
theorem op_neP (hu : X.A.units + 64 < cLine) : OpR X (compareOp .NotEq) (rEqP X.K true) := by
  intro pins s sg H x y v u Q I rx ry h
  obtain ⟨n, G, d, e, fz, nz, hn, p1, p2, r1, r2, q⟩ := h
  exact rn_D I fz nz n d e X.A x y v u p1 p2 r1 r2 rx ry (by omega) X.prog X.w X.xe _ ⟨.bl _, H, I, rfl, q⟩
end
/-! ### by data -/
/-- w stands for the plain data d -/
inductive Pk (ka : Cells) : W → D → Prop where
  | v {d} : Pk ka (.val d) d
  | w {d} : Pk ka (.vw d) d
  | c {a ds} (j : Nat) (h : ka[j]? = some (a, .lst ds)) : Pk ka (.val (.adr a)) (.lst ds)
section
variable {K : PySem.W.Frag} {B F F0 : Hp} {ro : Ro} {ka : Cells} {ta : List (V × W)} {sg : L2.St} {H : Hp} {x y : W}
/-- what may be read with the cells' lists beside -/
def gH (H : Hp) : Hp := fun a => match H a with
  | some (.frz _ u) => if lk u then some u else none
  | z => z
theorem gH_nz : Nz (gH H) := fun a u h => by
  unfold gH at h
  split at h
  · split at h
    · rename_i hx
      cases h
      cases u <;> first | rfl | cases hx
    · cases h
  · rename_i z q
    cases u with
    | frz ob z => exact absurd h (q ob z)
    | _ => rfl
theorem gH_exz : Exz (gH H) H := fun a u h => by
  unfold gH at h
  split at h
  · rename_i ob x q
    split at h
    · rename_i hx
      cases h
      exact .inr ⟨hx, ob, q⟩
    · cases h
  · exact .inl h
theorem exz_gH {G : Hp} (e : Exz G H) (n : Nz G) : Exz G (gH H) := fun a u h => by
  refine .inl ?_
  have hu := n a u h
  unfold gH
  rcases e a u h with q | ⟨k, o, q⟩
  · rw [q]
    cases u with
    | frz o z => cases hu
    | _ => rfl
  · rw [q]
    show (if lk u then some u else none) = some u
    rw [k]
    rfl
theorem Pk.get {d : D} {v : V} (l : Pk ka x d) (e : EnF K B F ro ka ta sg H) (h : WOk K B F v x) : Rp K (gH H) d v := by
  cases l with
  | v => exact Rp.mono (exz_gH e.fz e.nz) e.nz d v h
  | w => exact Rp.mono (exz_gH (uni_exz e.fz e.fr) (uni_nz e.nz)) (uni_nz e.nz) d v h
  | @c a ds j hj =>
    obtain ⟨_, _, xs, h1, h2⟩ := e.ce _ (List.mem_of_getElem? hj)
    have hv : v = .ref a := h
    refine ⟨a, xs, hv, .inl ?_, RpL.mono (exz_gH e.fz e.nz) e.nz _ _ h2⟩
    unfold gH
    rw [h1]
theorem rv_eqP {d e : D} (l1 : Pk ka x d) (l2 : Pk ka y e) (p1 : pl 61 d = true) (p2 : pl 61 e = true) : RvD K (rEqP K false) ka x y (.val (.bl (eqD d e))) := fun B F0 ro ta sg H u v Q en h1 h2 q => by
  obtain ⟨F, g, ef⟩ := id en
  exact ⟨60, gH H, d, e, gH_exz, gH_nz, Nat.le_refl _, p1, p2, l1.get ef (ef.tm _ h1), l2.get ef (ef.tm _ h2), q _ _ (en.push_imm fun _ => rfl)⟩
theorem rv_neP {d e : D} (l1 : Pk ka x d) (l2 : Pk ka y e) (p1 : pl 61 d = true) (p2 : pl 61 e = true) : RvD K (rEqP K true) ka x y (.val (.bl (!eqD d e))) := fun B F0 ro ta sg H u v Q en h1 h2 q => by
  obtain ⟨F, g, ef⟩ := id en
  exact ⟨60, gH H, d, e, gH_exz, gH_nz, Nat.le_refl _, p1, p2, l1.get ef (ef.tm _ h1), l2.get ef (ef.tm _ h2), q _ _ (en.push_imm fun _ => rfl)⟩
end
end DL

/-! DO: operators that a class of the text defines (own work). -/
namespace DL
open PySem L2 PySem.W

section
variable {X : Cx} {CX : CXT} {k : Nat} {C f : Addr} {fd : FuncData} {ps : List Str} {sp : Sp} {E : XK}
/-- where an instance stands, for the library's rules -/
theorem inst_at {pins : List (Addr × Obj)} {s : Shared} {sg : L2.St} {H : Hp} {a dx : Addr} {fs : List (Str × V)} (I : Inv X pins sg H s) (h : H a = some (.ins C dx fs)) : ∃ od, PySem.W.InstAt s.heap a (PySem.W.instObj C dx) C (some od) := by
  obtain ⟨mA, J, _⟩ := ins_get I.hok h
  obtain ⟨od, J2, _⟩ := J.look
  exact ⟨od, J2⟩
/-- the type of a value, as the library looks for it -/
def TyL (X : Cx) (x : V) (H : Hp) (T : String) : Prop := ∀ pins s sg u, Inv X pins sg H s → RelV x u → Looks (model X.prog X.w) s.heap (typeOf u) (.type T)
theorem cmpBack_of {X : Cx} {pins : List (Addr × Obj)} {sg : L2.St} {Q : VK} {u : Value} {s : Shared} (h : EP X pins sg Q u s) : CmpBack (EP X pins sg Q) u s := by
  obtain ⟨v, H, I, r, q⟩ := h
  cases v with
  | non => cases r; exact ⟨.non, H, I, rfl, q⟩
  | bl b => cases r; exact ⟨.bl b, H, I, rfl, q⟩
  | int i => obtain ⟨t, rfl⟩ := r; exact ⟨.int i, H, I, ⟨t, rfl⟩, q⟩
  | str i => obtain ⟨t, rfl⟩ := r; exact ⟨.str i, H, I, ⟨t, rfl⟩, q⟩
  | byt i => obtain ⟨t, rfl⟩ := r; exact ⟨.byt i, H, I, ⟨t, rfl⟩, q⟩
  | flt i => obtain ⟨t, rfl⟩ := r; exact ⟨.flt i, H, I, ⟨t, rfl⟩, q⟩
  | ref a => cases r; exact ⟨.ref a, H, I, rfl, q⟩
  | ty n => cases r; exact ⟨.ty n, H, I, rfl, q⟩
/-! ### == and != by the class's own __eq__ -/
/-- a type against which x's class goes first: a built-in one, or the class itself -/
inductive TyE (X : Cx) (C : Addr) (H : Hp) : V → Prop where
  | ty {y : V} {T : String} (h : TyL X y H T) (s : subIn X.K (.type T) (.ref C) = some false) : TyE X C H y
  | own {a dx : Addr} {fs : List (Str × V)} (h : H a = some (.ins C dx fs)) : TyE X C H (.ref a)
end
end DL

/-! DF: defs by contract, instances, exceptions by data (own work). -/
namespace DL
open PySem L2 PySem.W

/-! ### defs -/
/-- the def at f keeps the contract C -/
def Fn (P : Program) (w : World) (K : PySem.W.Frag) (mg : Str → Option Value) (base : Heap) (k : Nat) (f : Addr) (ps : List Str) (C : Ct) : Prop := ∃ fd, FnOk P w K mg base (L2.CX P w) k f fd ps (spC K C) ∧ Binds K fd ps []
section
variable {P : Program} {w : World} {K : PySem.W.Frag} {mg : Str → Option Value} {base : Heap} {f : Addr} {fd : FuncData} {x qual : Str} {params : Arguments} {body : List Stmt} {scope : Scope} {ps N : List Str} {k j : Nat} {C : Ct}
theorem Fn.up (F : Fn P w K mg base j f ps C) (h : j ≤ k) : Fn P w K mg base k f ps C := let ⟨fd, a, b⟩ := F; ⟨fd, a.mono h, b⟩
theorem fn_okG {dvs : List V} (F : FunD K x qual params body scope dvs [] f fd) (S : FnScope N ps scope)
    (hl : ∀ ws ka out, C ws ka out → ws.length = ps.length)
    (h : ∀ (cdv : Value) (A : Around) (outer : List Env) (s : Shared) (H : Hp) (E : XK), Room k (A.deeper (PyProof.Rows.envOfC qual scope s.heap.objs.size f cdv)) →
      ∃ t, PSs (cxOf (L2.CX P w) P w K mg base N qual scope f cdv A outer s H E) body t ∧
        ∀ ws ka out B F0 Q, C ws ka out → RtOk K B F0 out Q → RxOk K B F0 out E → Gp K B F0 [] (t { nx := fun _ H' => Q .non H', rt := Q }) (ws.map some ++ List.replicate (N.length - ps.length) none) ka) : FnOk P w K mg base (L2.CX P w) (k + 1) f fd ps (spC K C) := by
  refine (F.ok S (fun vs H Q E h => ?_) (fun cdv A outer s H vs Q E hr hs => ?_))
  · obtain ⟨B, F', ws, ka, out, hC, l, _⟩ := h
    rw [l]
    exact hl _ _ _ hC
  · obtain ⟨t, d, p⟩ := h cdv A outer s H E hr
    obtain ⟨B, F0, ws, ka, out, hC, l, ⟨F1, g1, en⟩, hR, hX⟩ := hs
    refine ⟨t, d, p ws ka out B F0 Q hC hR hX _ H ⟨F1, g1, ?_⟩⟩
    have hw := hl _ _ _ hC
    refine (en.frame (ro' := ws.map some ++ List.replicate (N.length - ps.length) none) (sg' := L2.start N vs) ?_ fun i w2 e => ?_).held fun p hp => by cases hp
    · unfold L2.start
      rw [List.length_append, List.length_append, List.length_map, List.length_map, List.length_replicate, List.length_replicate, l, hw]
    · unfold L2.start
      by_cases hi : i < ws.length
      · rw [List.getElem?_append_left (by rw [List.length_map]; exact hi), List.getElem?_map, List.getElem?_eq_getElem hi] at e
        have e' : ws[i] = w2 := by simpa using e
        rw [List.getElem?_append_left (by rw [List.length_map, l]; exact hi), List.getElem?_map, List.getElem?_eq_getElem (by rw [l]; exact hi)]
        refine ⟨vs[i], rfl, ?_⟩
        have := en.tm (vs[i]'(by rw [l]; exact hi), ws[i]) (by
          have hz : (vs.zip ws)[i]? = some (vs[i]'(by rw [l]; exact hi), ws[i]) := by
            rw [List.getElem?_zip_eq_some]
            exact ⟨List.getElem?_eq_getElem _, List.getElem?_eq_getElem _⟩
          exact List.mem_of_getElem? hz)
        rw [e'] at this
        exact this
      · rw [List.getElem?_append_right (by rw [List.length_map]; omega), List.getElem?_replicate] at e
        split at e <;> cases e
theorem fn_okF (F : FunD K x qual params body scope [] [] f fd) (S : FnScope N ps scope)
    (hb : ∀ (kV doc pm : Value) (an : Option Addr) (cdv ct : Value) (us : List Value), us.length = ps.length → bindArgs (PySem.W.fnOf x qual params body scope .none kV doc pm an cdv ct) ⟨us, []⟩ = pure (ps.zip us))
    (hl : ∀ ws ka out, C ws ka out → ws.length = ps.length)
    (h : ∀ (cdv : Value) (A : Around) (outer : List Env) (s : Shared) (H : Hp) (E : XK), Room k (A.deeper (PyProof.Rows.envOfC qual scope s.heap.objs.size f cdv)) →
      ∃ t, PSs (cxOf (L2.CX P w) P w K mg base N qual scope f cdv A outer s H E) body t ∧
        ∀ ws ka out B F0 Q, C ws ka out → RtOk K B F0 out Q → RxOk K B F0 out E → Gp K B F0 [] (t { nx := fun _ H' => Q .non H', rt := Q }) (ws.map some ++ List.replicate (N.length - ps.length) none) ka) : FnOk P w K mg base (L2.CX P w) (k + 1) f fd ps (spC K C) := fn_okG F S hl h
theorem fn_ok (F : FunD K x qual params body scope [] [] f fd) (S : FnScope N ps scope)
    (hb : ∀ (kV doc pm : Value) (an : Option Addr) (cdv ct : Value) (us : List Value), us.length = ps.length → bindArgs (PySem.W.fnOf x qual params body scope .none kV doc pm an cdv ct) ⟨us, []⟩ = pure (ps.zip us))
    (hl : ∀ ws ka out, C ws ka out → ws.length = ps.length)
    (h : ∀ (cdv : Value) (A : Around) (outer : List Env) (s : Shared) (H : Hp) (E : XK), Room k (A.deeper (PyProof.Rows.envOfC qual scope s.heap.objs.size f cdv)) →
      ∃ t, PSs (cxOf (L2.CX P w) P w K mg base N qual scope f cdv A outer s H E) body t ∧
        ∀ ws ka out B F0 Q, C ws ka out → RtOk K B F0 out Q → RxOk K B F0 out E → Gp K B F0 [] (t { nx := fun _ H' => Q .non H', rt := Q }) (ws.map some ++ List.replicate (N.length - ps.length) none) ka) : Fn P w K mg base (k + 1) f ps C := ⟨fd, fn_okF F S hb hl h, F.bindsN hb⟩
end
/-- the def behind a contract, and what is known of it -/
noncomputable def Fn.fd {P : Program} {w : World} {K : PySem.W.Frag} {mg : Str → Option Value} {base : Heap} {k : Nat} {f : Addr} {ps : List Str} {C : Ct} (F : Fn P w K mg base k f ps C) : FuncData := Classical.choose F
theorem Fn.ok {P : Program} {w : World} {K : PySem.W.Frag} {mg : Str → Option Value} {base : Heap} {k : Nat} {f : Addr} {ps : List Str} {C : Ct} (F : Fn P w K mg base k f ps C) : FnOk P w K mg base (L2.CX P w) k f F.fd ps (spC K C) := (Classical.choose_spec F).1
theorem Fn.bn {P : Program} {w : World} {K : PySem.W.Frag} {mg : Str → Option Value} {base : Heap} {k : Nat} {f : Addr} {ps : List Str} {C : Ct} (F : Fn P w K mg base k f ps C) : Binds K F.fd ps [] := (Classical.choose_spec F).2
section
variable {X : Cx}
theorem passes_no : Passes (L2.CX X.prog X.w) X (fun _ _ _ => False) := fun _ _ _ _ _ _ _ ⟨_, _, _, _, _, _, _, _, _, _, _, _, z⟩ => z.elim
end
end DL

/-! DG: instances by data (own work). -/
namespace DL
open PySem L2 PySem.W

section
variable {K : PySem.W.Frag} {B F F0 : Hp} {ro : Ro} {ka k1 k2 k3 kr : Cells} {ta : List (V × W)} {sg : L2.St} {H H' : Hp} {te tf tg : TE} {tr : TA} {tt : TT} {w x y z : W} {n : Nd} {C dx a : Addr} {fs : List (Str × D)} {b : Bool}

theorem rpf_lookup {F : Hp} : ∀ {fs : List (Str × D)} {xs : List (Str × V)} {f : Str} {d : D}, RpF K F fs xs → fs.lookup f = some d → ∃ v, xs.lookup f = some v ∧ Rp K F d v
  | [], _, _, _, _, e => by cases e
  | (g, d0) :: fs, xs, f, d, h, e => by
    obtain ⟨x, ys, rfl, h1, h2⟩ := h
    unfold List.lookup at e ⊢
    cases q : (f == g) with
    | true =>
      rw [q] at e
      cases e
      exact ⟨x, rfl, h1⟩
    | false =>
      rw [q] at e
      exact rpf_lookup h2 e
theorem rpf_none {F : Hp} : ∀ {fs : List (Str × D)} {xs : List (Str × V)} {f : Str}, RpF K F fs xs → fs.lookup f = none → xs.lookup f = none
  | [], xs, f, h, _ => by rw [show xs = [] from h]; rfl
  | (g, d0) :: fs, xs, f, h, e => by
    obtain ⟨x, ys, rfl, h1, h2⟩ := h
    unfold List.lookup at e ⊢
    cases q : (f == g) with
    | true => rw [q] at e; cases e
    | false => rw [q] at e; exact rpf_none h2 e
/-- w is an instance of the class at C with the fields fs; b: viewed -/
inductive Io (ka : Cells) : W → Addr → List (Str × D) → Bool → Prop where
  | v {D1 : Addr} {gs : List (Str × D)} : Io ka (.val (.ins D1 gs)) D1 gs false
  | w {D1 : Addr} {gs : List (Str × D)} : Io ka (.vw (.ins D1 gs)) D1 gs true
  | c {p D1 : Addr} {gs : List (Str × D)} (j : Nat) (h : ka[j]? = some (p, .ins D1 gs)) : Io ka (.val (.adr p)) D1 gs false
theorem rd_ins {H : Hp} {dx : Addr} {xs : List (Str × V)} (n : Nz F) (e : Exz F H) (h : Rd F a (.ins C dx xs)) : H a = some (.ins C dx xs) := by
  rcases h with h | ⟨o, h⟩
  · exact e.at h rfl
  · have := n a _ h
    cases this
/-- the built-in type of a value, by the abstract heap -/
inductive TyV (K : PySem.W.Frag) (H : Hp) : V → String → Prop where
  | non : TyV K H .non "NoneType"
  | bl {b : Bool} : TyV K H (.bl b) "bool"
  | int {b : Int} : TyV K H (.int b) "int"
  | str {b : Str} : TyV K H (.str b) "str"
  | lst {a : Addr} {xs : List V} (h : SqL K H a xs) : TyV K H (.ref a) "list"
  | tup {a : Addr} {xs : List V} (h : SqT K H a xs) : TyV K H (.ref a) "tuple"
inductive TyE2 (K : PySem.W.Frag) (C : Addr) (H : Hp) : V → Prop where
  | ty {y : V} {T : String} (h : TyV K H y T) (s : subIn K (.type T) (.ref C) = some false) : TyE2 K C H y
  | own {a dx : Addr} {gs : List (Str × V)} (h : H a = some (.ins C dx gs)) : TyE2 K C H (.ref a)
theorem Io.get {v : V} (l : Io ka w C fs b) (e : EnF K B F ro ka ta sg H) (h : WOk K B F v w) : ∃ a dx xs, v = .ref a ∧ H a = some (.ins C dx xs) ∧ RpF K (if b then uni B F else F) fs xs := by
  cases l with
  | v =>
    obtain ⟨a, dx, xs, rfl, h1, h2⟩ := h
    exact ⟨a, dx, xs, rfl, rd_ins e.nz e.fz h1, h2⟩
  | w =>
    obtain ⟨a, dx, xs, rfl, h1, h2⟩ := h
    exact ⟨a, dx, xs, rfl, rd_ins (uni_nz e.nz) (uni_exz e.fz e.fr) h1, h2⟩
  | @c a C fs j hj =>
    obtain ⟨_, _, dx, xs, h1, h2⟩ := e.ce _ (List.mem_of_getElem? hj)
    exact ⟨a, dx, xs, h, h1, h2⟩
theorem Io.en {v : V} (l : Io ka w C fs b) (e : En K B F0 ro ka ta sg H) (h : (v, w) ∈ ta) : ∃ a dx xs, v = .ref a ∧ H a = some (.ins C dx xs) := by
  obtain ⟨F, g, e⟩ := e
  obtain ⟨a, dx, xs, h1, h2, _⟩ := l.get e (e.tm _ h)
  exact ⟨a, dx, xs, h1, h2⟩
/-- o.f, a field -/
theorem ev_fld {f : Str} {d : D} (h : EvD K te ro ka w k1) (l : Io k1 w C fs b) (c : Cls K C) (nf : NoAttr K C f) (hd : fs.lookup f = some d) : EvD K (tFld K te f) ro ka (part b d) k1 := fun B F0 ta sg H Q e q => h B F0 ta sg H _ e fun v H1 e1 => by
  obtain ⟨F, g, e1⟩ := e1
  obtain ⟨a, dx, xs, rfl, h1, h2⟩ := l.get e1 (e1.tm _ List.mem_cons_self)
  obtain ⟨v, h3, h4⟩ := rpf_lookup h2 hd
  refine ⟨a, C, dx, xs, v, rfl, h1, c, nf, h3, q v H1 ⟨F, g, ?_⟩⟩
  exact (e1.held (ta' := ta) fun p hp => List.mem_cons_of_mem _ hp).push (wok_part b h4)

/-! ### calls by contract: how they end -/
/-- the call ends with an exception of the class C1 -/
theorem sp_exc {Cc : Ct} {ws : List W} {out : Out → Cells → Prop} {vs : List V} {E : XK} {Q : VK} {C1 : Addr} {fs : List (Str × D)} (e : En K B F0 ro (ka ++ kr) (vs.zip ws ++ ta) sg H) (hl : vs.length = ws.length) (hC : Cc ws ka out) (ho : ∀ o k, out o k → o = .exc C1 fs ∧ k = k2)
    (q : ∀ dx H', En K B F0 ro (k2 ++ [(dx, .xd fs)] ++ kr) ta sg H' → E (.ref C1) (some dx) H') : spC K Cc vs H Q E := by
  obtain ⟨F, g, e⟩ := e
  refine ⟨off H ka, F, ws, ka, out, hC, hl, ⟨F, Gr.refl _ _, e.into (ro' := []) (sg' := []) (ta' := vs.zip ws) rfl (fun i w h => by simp at h) fun p hp => List.mem_append_left _ hp⟩, fun d' k v H' o _ => ?_, fun C fs k dx H' o ⟨F', g', e'⟩ => ?_, fun C k H' o _ => ?_⟩
  · have := (ho _ _ o).1
    cases this
  · obtain ⟨hd, rfl⟩ := ho _ _ o
    cases hd
    obtain ⟨g2, e2⟩ := e.back g' e' (tb := ta) fun p hp => .inl (List.mem_append_right _ hp)
    exact q dx H' ⟨F', g.trans g2, e2⟩
  · have := (ho _ _ o).1
    cases this
/-- the call comes back with a new cell -/
theorem sp_new {Cc : Ct} {ws : List W} {out : Out → Cells → Prop} {vs : List V} {E : XK} {Q : VK} {m : Nd} (e : En K B F0 ro (ka ++ kr) (vs.zip ws ++ ta) sg H) (hl : vs.length = ws.length) (hC : Cc ws ka out) (ho : ∀ o k, out o k → ∃ a, o = .ret (.adr a) ∧ k = k2 ++ [(a, m)])
    (q : ∀ a H', En K B F0 ro (k2 ++ kr ++ [(a, m)]) ta sg H' → Q (.ref a) H') : spC K Cc vs H Q E := by
  obtain ⟨F, g, e⟩ := e
  refine ⟨off H ka, F, ws, ka, out, hC, hl, ⟨F, Gr.refl _ _, e.into (ro' := []) (sg' := []) (ta' := vs.zip ws) rfl (fun i w h => by simp at h) fun p hp => List.mem_append_left _ hp⟩, fun d' k v H' o ⟨F', g', e'⟩ => ?_, fun C fs k dx H' o _ => ?_, fun C k H' o _ => ?_⟩
  · obtain ⟨a, hd, rfl⟩ := ho _ _ o
    cases hd
    have hv : v = .ref a := e'.tm (v, .val (.adr a)) List.mem_cons_self
    subst hv
    obtain ⟨g2, e2⟩ := e.back g' e' (tb := ta) fun p hp => .inl (List.mem_append_right _ hp)
    refine q a H' ⟨F', g.trans g2, e2.perm ?_⟩
    rw [List.append_assoc, List.append_assoc]
    exact List.Perm.append_left _ List.perm_append_comm
  · obtain ⟨a, z, _⟩ := ho _ _ o
    cases z
  · obtain ⟨a, z, _⟩ := ho _ _ o
    cases z
theorem evn_call {Cc : Ct} {ws : List W} {out : Out → Cells → Prop} {E : XK} {m : Nd} (kr : Cells) (ha : EvA K tr ro ka ws (k1 ++ kr)) (hC : Cc ws k1 out) (ho : ∀ o k, out o k → ∃ a, o = .ret (.adr a) ∧ k = k2 ++ [(a, m)]) : EvN K (tCall (spC K Cc) [] E tr) ro ka m (k2 ++ kr) := fun B F0 ta sg H Q e q =>
  ha B F0 ta sg H _ e fun vs H1 hl e1 => by
    rw [List.append_nil]
    exact sp_new e1 hl hC ho q
/-- o.f, a property -/
theorem ev_prop {Cc : Ct} {out : Out → Cells → Prop} {E : XK} {d : D} (kr : Cells) (h : EvD K te ro ka w (k1 ++ kr)) (l : Io (k1 ++ kr) w C fs b) (hC : Cc [w] k1 out) (ho : ∀ o k, out o k → o = .ret d ∧ k = k1) : EvD K (tProp C (spC K Cc) [] E te) ro ka (.val d) (k1 ++ kr) := fun B F0 ta sg H Q e q => h B F0 ta sg H _ e fun u H1 e1 => by
  obtain ⟨a, dx, xs, rfl, ha⟩ := l.en e1 List.mem_cons_self
  exact ⟨a, dx, xs, rfl, ha, sp_ret (vs := [.ref a]) (ws := [w]) (ta := ta) e1 rfl hC ho q⟩
/-- own == own, own != own, or a built-in's value -/
inductive Eo (ka : Cells) : W → Addr → Prop where
  | io {u : W} {D1 : Addr} {gs : List (Str × D)} {b1 : Bool} (l : Io ka u D1 gs b1) : Eo ka u D1
  | non {D1 : Addr} : Eo ka (.val .non) D1
  | bl {b1 : Bool} {D1 : Addr} : Eo ka (.val (.bl b1)) D1
  | int {b1 : Int} {D1 : Addr} : Eo ka (.val (.int b1)) D1
  | str {b1 : Str} {D1 : Addr} : Eo ka (.val (.str b1)) D1
  | sq {u : W} {t b1 : Bool} {ds : List D} {D1 : Addr} (l : Lk ka u t ds b1) : Eo ka u D1
theorem Eo.at {u : V} (hT : EqT K C) (l : Eo ka y C) (e : En K B F0 ro ka ta sg H) (h : (u, y) ∈ ta) : TyE2 K C H u := by
  cases l with
  | io l =>
    obtain ⟨a, dx, xs, rfl, ha⟩ := l.en e h
    exact .own ha
  | non =>
    obtain rfl := e.tm_non h
    exact .ty .non (hT _ (by simp))
  | bl =>
    obtain rfl := e.tm_bl h
    exact .ty .bl (hT _ (by simp))
  | int =>
    obtain rfl := e.tm_int h
    exact .ty .int (hT _ (by simp))
  | str =>
    obtain rfl := e.tm_str h
    exact .ty .str (hT _ (by simp))
  | @sq x t ds b C l =>
    obtain ⟨F, g, e⟩ := e
    obtain ⟨a, xs, rfl, h1, _⟩ := l.get e (e.tm _ h)
    cases t with
    | false => exact .ty (.lst (.inl h1)) (hT _ (by simp))
    | true => exact .ty (.tup h1) (hT _ (by simp))
/-- own << other and the like: the other of a built-in type -/
structure TyWf (K : PySem.W.Frag) (C : Addr) (op : Operator) (ka : Cells) (y : W) : Prop where
  at_ : ∀ B F0 ro ta sg H u, En K B F0 ro ka ta sg H → (u, y) ∈ ta → ∃ T, TyV K H u T ∧ BoT K C op T
end
end DL

/-! DH: making objects, isinstance, conversions, exceptions by data (own work). -/
namespace DL
open PySem L2 PySem.W

section
variable {K : PySem.W.Frag} {B F F0 : Hp} {ro : Ro} {ka k1 k2 k3 kr : Cells} {ta : List (V × W)} {sg : L2.St} {H H' : Hp} {te tf tg : TE} {tr : TA} {tt : TT} {w x y z : W} {n : Nd} {C dx a : Addr} {fs : List (Str × D)} {b : Bool} {P : L2.St → Hp → Prop}

/-! ### an instance cell, frozen -/
theorem En.freeze_i (e : En K B F0 ro (ka ++ [(a, .ins C fs)]) ta sg H) : En K B F0 ro ka ((.ref a, .val (.ins C fs)) :: ta) sg H := by
  obtain ⟨F, g, e⟩ := e
  obtain ⟨fa, ba, dx, xs, ha, rl⟩ := e.ce (a, .ins C fs) (by simp)
  have gg : Gr B F (upd F a (.ins C dx xs)) := ⟨Sub.new fa, fun b h1 h2 => by
    have ne : b ≠ a := fun q => h2 (q ▸ ba)
    rw [upd_ne ne]
    exact h1⟩
  have nd2 := e.nd
  rw [List.map_append, List.nodup_append] at nd2
  refine ⟨upd F a (.ins C dx xs), g.trans gg, ⟨fun b u h => ?_, fun b u h => ?_, e.fr, nd2.1, fun q hq => ?_, e.ln, fun i w h => ?_, fun q hq => ?_⟩⟩
  · by_cases hb : b = a
    · subst hb; rw [upd_same] at h; cases h; rfl
    · rw [upd_ne hb] at h; exact e.nz b u h
  · by_cases hb : b = a
    · subst hb; rw [upd_same] at h; cases h; exact .inl ha
    · rw [upd_ne hb] at h; exact e.fz b u h
  · obtain ⟨h1, h2, h3⟩ := e.ce q (List.mem_append_left _ hq)
    have nq : q.1 ≠ a := fun z => nd2.2.2 q.1 (List.mem_map.mpr ⟨q, hq, rfl⟩) a (by simp) z
    exact ⟨by rw [upd_ne nq]; exact h1, h2, ndok_gr e.nz gg h3⟩
  · obtain ⟨v, h1, h2⟩ := e.sl i w h
    exact ⟨v, h1, wok_gr e.nz gg h2⟩
  · rcases List.mem_cons.mp hq with rfl | hq
    · exact ⟨a, dx, xs, rfl, .inl upd_same, RpF.mono gg.sub.exz e.nz _ _ rl⟩
    · exact wok_gr e.nz gg (e.tm q hq)
theorem EvN.ins {fs : List (Str × D)} (h : EvN K te ro ka (.ins C fs) k1) : EvD K te ro ka (.val (.ins C fs)) k1 := fun B F0 ta sg H Q e q => h B F0 ta sg H Q e fun a H1 e1 => q _ _ e1.freeze_i
/-- fewer cells -/
theorem En.less (e : En K B F0 ro ka ta sg H) (h : k1.Sublist ka) : En K B F0 ro k1 ta sg H := let ⟨F, g, q⟩ := e; ⟨F, g, q.cells h⟩
theorem EvD.less (h : EvD K te ro ka w k1) (s : k2.Sublist k1) : EvD K te ro ka w k2 := fun B F0 ta sg H Q e q => h B F0 ta sg H Q e fun v H1 e1 => q v H1 (e1.less s)
theorem Gp.less (h : Gp K B F0 ta P ro k1) (s : k1.Sublist ka) : Gp K B F0 ta P ro ka := fun sg H e => h sg H (e.less s)
/-- self.f = e, self a cell -/
def putD (f : Str) (v : D) : List (Str × D) → List (Str × D)
  | [] => [(f, v)]
  | (g, x) :: r => if g = f then (g, v) :: r else (g, x) :: putD f v r
theorem rpf_put {F : Hp} {f : Str} {v : V} {d : D} (hv : Rp K F d v) : ∀ {fs : List (Str × D)} {xs : List (Str × V)}, RpF K F fs xs → RpF K F (putD f d fs) (putF f v xs)
  | [], xs, h => by rw [show xs = [] from h]; exact ⟨v, [], rfl, hv, rfl⟩
  | (g, d0) :: fs, xs, h => by
    obtain ⟨x, ys, rfl, h1, h2⟩ := h
    unfold putD putF
    by_cases q : g = f
    · rw [if_pos q, if_pos q]
      exact ⟨v, ys, rfl, hv, h2⟩
    · rw [if_neg q, if_neg q]
      exact ⟨x, _, rfl, h1, rpf_put hv h2⟩
theorem rpf_len {F : Hp} : ∀ {fs : List (Str × D)} {xs : List (Str × V)}, RpF K F fs xs → xs.length = fs.length
  | [], xs, h => by rw [show xs = [] from h]; rfl
  | _ :: fs, xs, h => by
    obtain ⟨x, ys, rfl, _, h2⟩ := h
    rw [List.length_cons, List.length_cons, rpf_len h2]
theorem g_fld {f : Str} {d : D} {j : Nat} {De : Ends} (hv : EvD K tf ro ka (.val d) k1) (ho : EvD K te ro k1 (.val (.adr a)) k2) (hj : k2[j]? = some (a, .ins C fs)) (c : Cls K C) (nf : NoAttr K C f) (hz : fs.length < 900)
    (k : Gp K B F0 ta De.nx ro (k2.set j (a, .ins C (putD f d fs)))) : Gp K B F0 ta (sFld K te tf f De) ro ka := fun sg H e => hv B F0 ta sg H _ e fun v H1 e1 => ho B F0 _ sg H1 _ e1 fun u H2 e2 => by
  have hu := e2.tm_adr List.mem_cons_self
  subst hu
  obtain ⟨F, g, e2⟩ := e2
  obtain ⟨_, _, dx, xs, hx, rx⟩ := e2.ce _ (List.mem_of_getElem? hj)
  have hv := e2.tm (v, .val d) (List.mem_cons_of_mem _ List.mem_cons_self)
  refine ⟨a, C, dx, xs, rfl, hx, c, nf, by rw [rpf_len rx]; omega, k _ _ ⟨F, g, ?_⟩⟩
  exact (e2.write (o := .ins C dx (putF f v xs)) (n' := .ins C (putD f d fs)) hj ⟨dx, _, upd_same, rpf_put hv rx⟩).held fun p hp => List.mem_cons_of_mem _ (List.mem_cons_of_mem _ hp)
theorem q_fld {f : Str} {d : D} {j : Nat} {De : Ends} {u : TS} (hv : EvD K tf ro ka (.val d) k1) (ho : EvD K te ro k1 (.val (.adr a)) k2) (hj : k2[j]? = some (a, .ins C fs)) (c : Cls K C) (nf : NoAttr K C f) (hz : fs.length < 900)
    (k : Gp K B F0 ta (u De) ro (k2.set j (a, .ins C (putD f d fs)))) : Gp K B F0 ta (tSeq (sFld K te tf f) u De) ro ka := g_fld (De := { De with nx := u De }) hv ho hj c nf hz k

/-! ### isinstance -/
/-- the type of what w stands for -/
inductive Tw (K : PySem.W.Frag) (ka : Cells) : W → Value → Prop where
  | non : Tw K ka (.val .non) (.type "NoneType")
  | bl {i : Bool} : Tw K ka (.val (.bl i)) (.type "bool")
  | int {i : Int} : Tw K ka (.val (.int i)) (.type "int")
  | str {i : Str} : Tw K ka (.val (.str i)) (.type "str")
  | lst {u : W} {ds : List D} {b1 : Bool} (l : Lk ka u false ds b1) : Tw K ka u (.type "list")
  | tup {u : W} {ds : List D} {b1 : Bool} (l : Lk ka u true ds b1) : Tw K ka u (.type "tuple")
  | io {u : W} {D1 : Addr} {gs : List (Str × D)} {b1 : Bool} (l : Io ka u D1 gs b1) (c : ClsI K D1) : Tw K ka u (.ref D1)
theorem Tw.at {t : Value} {v : V} (l : Tw K ka w t) (e : En K B F0 ro ka ta sg H) (h : (v, w) ∈ ta) : TyX K H v t := by
  cases l with
  | non => obtain rfl := e.tm_non h; exact .base .non
  | bl => obtain rfl := e.tm_bl h; exact .base (.bl _)
  | int => obtain rfl := e.tm_int h; exact .base (.int _)
  | str => obtain rfl := e.tm_str h; exact .base (.str _)
  | lst l =>
    obtain ⟨F, g, e⟩ := e
    obtain ⟨a, xs, rfl, h1, _⟩ := l.get e (e.tm _ h)
    rcases (show Rd H a (.lst xs) from h1) with h1 | ⟨o, h1⟩
    · exact .base (.lst h1)
    · exact .base (.frz h1)
  | tup l =>
    obtain ⟨F, g, e⟩ := e
    obtain ⟨a, xs, rfl, h1, _⟩ := l.get e (e.tm _ h)
    rcases (show SqT K H a xs from h1) with h1 | h1
    · rcases h1 with h1 | ⟨o, h1⟩
      · exact .base (.tup h1)
      · exact .fTuple h1
    · obtain ⟨o, its, n, q1, q2, _⟩ := h1
      exact .kTuple q1 q2
  | io l c =>
    obtain ⟨a, dx, xs, rfl, ha⟩ := l.en e h
    exact .base (.ins ha c.cl c.ha c.hn c.htk c.hm)
theorem rc_isi {T : String} {t : Value} {b : Bool} (l : Tw K ka w t) (h : kitOne K t (.type T) = some b) : RcD K (rIsi K) ka [w, .val (.ty T)] (.val (.bl b)) := fun B F0 ro ta sg H us Q e hl hm q => by
  obtain ⟨u, v, rfl, h1, h2⟩ := zip_two hl hm
  have hv : v = .ty T := e.tm_ty h2
  subst hv
  exact ⟨u, .ty T, t, .type T, b, rfl, .ty T, l.at e h1, h, q _ _ (e.push_imm fun _ => rfl)⟩
end
end DL

/-! DJ: raise, try, by data; conversions (own work). -/
namespace DL
open PySem L2 PySem.W

/-! ### own exception classes -/
theorem slots_six {sl : Array (Option Value)} (h : slotsOk sl = true) : ∃ a b c d e, sl = #[a, b, c, d, some (.builtin "ValueError.__new__"), e] := by
  obtain ⟨h1, h2⟩ := Bool.and_eq_true_iff.mp h
  have h1 := beq_iff_eq.mp h1
  have h2 := beq_iff_eq.mp h2
  obtain ⟨l⟩ := sl
  match l, h1, h2 with
  | [a, b, c, d, x, e], _, h2 =>
    have : x = some (.builtin "ValueError.__new__") := by simpa using h2
    exact ⟨a, b, c, d, e, by rw [this]⟩
theorem oexB_ok {K : PySem.W.Frag} {C : Addr} (h : oexB K C = true) : OexC K C := by
  have h := Bool.and_eq_true_iff.mp h
  have r1 := Bool.and_eq_true_iff.mp h.2
  have r2 := Bool.and_eq_true_iff.mp r1.2
  have r3 := Bool.and_eq_true_iff.mp r2.2
  refine ⟨?_, of_decide_eq_true r1.1, of_decide_eq_true r2.1, of_decide_eq_true r3.1, r3.2⟩
  obtain ⟨o, ho, h1⟩ : ∃ o, K.lookup C = some o ∧ errObj C o = true := by
    cases q : K.lookup C with
    | none => have := h.1; rw [q] at this; cases this
    | some o => have := h.1; rw [q] at this; exact ⟨o, rfl, this⟩
  have k1 := Bool.and_eq_true_iff.mp h1
  have k2 := Bool.and_eq_true_iff.mp k1.2
  have hc := beq_iff_eq.mp k1.1
  obtain ⟨s0, s1, s2, s3, s5, hs⟩ := slots_six k2.1
  obtain ⟨oc, od, dt, sl⟩ := o
  cases dt with
  | cls cd =>
    have l1 := Bool.and_eq_true_iff.mp (show (!cd.hasDel && (cd.hasDict && _)) = true from k2.2)
    have l2 := Bool.and_eq_true_iff.mp l1.2
    have hdel : cd.hasDel = false := by simpa using l1.1
    have hdict : cd.hasDict = true := l2.1
    cases hm : cd.mro with
    | nil => have := l2.2; rw [hm] at this; cases this
    | cons x r =>
      have l3 : (x == .ref C && PySem.HandSPX.refsVE r) = true := by have := l2.2; rw [hm] at this; exact this
      have l4 := Bool.and_eq_true_iff.mp l3
      have hx := beq_iff_eq.mp l4.1
      refine ⟨cd.name, cd.qualname, cd.ns, cd.bases, r, cd.slotNames, cd.subclasses, cd.abstract, cd.collection, od, s0, s1, s2, s3, s5, ?_, l4.2⟩
      rw [ho]
      have hc : oc = .type "type" := hc
      have hs : sl = _ := hs
      subst hc hs hx
      cases cd
      cases hm
      cases hdel
      cases hdict
      rfl
  | _ => cases k2.2
/-- what a raised own error with fields asks of the text -/
structure Xc (K : PySem.W.Frag) (C : Addr) : Prop where
  oex : OexC K C
  xf : XfC K C
theorem xcB_ok {K : PySem.W.Frag} {C : Addr} (h : xcB K C = true) : Xc K C := let ⟨a, b⟩ := Bool.and_eq_true_iff.mp h; ⟨oexB_ok a, xfB_ok b⟩
/-- __init__(self, x): self.f = x -/
def spI1 (K : PySem.W.Frag) (C : Addr) (f : Str) : Sp := fun vs H Q _ => ∃ a y, vs = [.ref a, y] ∧ OexC K C ∧ findIn K (.ref C) f = some none ∧ H a = some (exo a C none) ∧
  ∀ d, H d = none → d ≠ a → Q .non (upd (upd H d (exd d [(f, y)])) a (exo a C (some d)))
theorem init1_ok {P : Program} {w : World} {K : PySem.W.Frag} {mg : Str → Option Value} {base : Heap} {f C : Addr} {fd : FuncData} {nm qual x fld : Str} {params : Arguments} {body : List Stmt} {scope : Scope} {k : Nat} {CX : CXT}
    (F : FunD K nm qual params body scope [] [] f fd) (S : FnScope ["self", x] ["self", x] scope)
    (h : ∀ (cdv : Value) (A : Around) (outer : List Env) (s : Shared) (H : Hp) (E : XK), PSs (cxOf CX P w K mg base ["self", x] qual scope f cdv A outer s H E) body (tOst K fld (tVar 0) (tVar 1))) : FnOk P w K mg base CX (k + 1) f fd ["self", x] (spI1 K C fld) :=
  F.ok S (fun vs H Q E ⟨a, y, e, _⟩ => by rw [e]; rfl) fun cdv A outer s H vs Q E hr ⟨a, y, e, T, hno, ha, q⟩ => ⟨_, h cdv A outer s H E, by
    subst e
    exact ⟨y, rfl, .ref a, rfl, a, C, rfl, T, hno, .inl ⟨ha, q⟩⟩⟩
section
variable {K : PySem.W.Frag} {B F F0 : Hp} {ro : Ro} {ka k1 k2 k3 kr : Cells} {ta : List (V × W)} {sg : L2.St} {H H' : Hp} {te tf tg : TE} {tr : TA} {tt : TT} {w x y z : W} {n : Nd} {C dx a : Addr} {fs : List (Str × D)} {b : Bool} {P : L2.St → Hp → Prop}
theorem mk1_of {fld : Str} {d : D} {Q : XK} (ha : EvA K tr ro ka [.val d] k1) (T : OexC K C) (hno : findIn K (.ref C) fld = some none) (e : En K B F0 ro ka ta sg H)
    (q : ∀ dx H', En K B F0 ro (k1 ++ [(dx, .xd [(fld, d)])]) ta sg H' → Q (.ref C) (some dx) H') : tMkO C (spI1 K C fld) [] tr sg H Q := ha B F0 ta sg H _ e fun vs H1 hl e1 => by
  match vs, hl with
  | [v], _ =>
    refine ⟨by show 1 ≤ 1000; omega, fun a hna => ⟨a, v, rfl, T, hno, upd_same, fun dd hd hne => ⟨rfl, dd, [(fld, v)], upd_same, ?_, ?_, ?_⟩⟩⟩
    · rw [upd_ne hne, upd_same]
    · rwa [upd_ne hne] at hd
    · have hd1 : H1 dd = none := by rwa [upd_ne hne] at hd
      have eH : upd (del (upd (upd (upd H1 a (exo a C none)) dd (exd dd [(fld, v)])) a (exo a C (some dd))) a) dd (.xd [(fld, v)]) = upd H1 dd (.xd [(fld, v)]) := by
        funext b
        by_cases h1 : b = dd
        · subst h1
          rw [upd_same, upd_same]
        · rw [upd_ne h1, upd_ne h1]
          by_cases h2 : b = a
          · subst h2
            rw [del_same, hna]
          · rw [del_ne h2, upd_ne h2, upd_ne h1, upd_ne h2]
      rw [eH]
      obtain ⟨F, g, e1⟩ := e1
      have hv : WOk K B F v (.val d) := e1.tm _ (List.mem_append_left _ List.mem_cons_self)
      exact q dd _ ⟨F, g, (e1.cell (o := .xd [(fld, v)]) hd1 (n := .xd [(fld, d)]) ⟨_, upd_same, v, [], rfl, hv, rfl⟩).held fun p hp => List.mem_append_right _ hp⟩
theorem En.leaveX (e : En K B F0 ro ka ta sg H) : En K B F0 [] ka [] [] H :=
  let ⟨F, g, q⟩ := e
  ⟨F, g, (q.frame (ro' := []) (sg' := []) rfl fun i w h => by simp at h).held fun p hp => by cases hp⟩
theorem g_raise1 {fld : Str} {d : D} {out : Out → Cells → Prop} {E : XK} (hX : RxOk K B F0 out E) (ha : EvA K tr ro ka [.val d] k1) (T : OexC K C) (hno : findIn K (.ref C) fld = some none) (o : out (.exc C [(fld, d)]) k1) :
    Gp K B F0 ta (fun σ H => tMkO C (spI1 K C fld) [] tr σ H fun cls dd H' => E cls dd H') ro ka := fun sg H e => mk1_of ha T hno e fun dx H' e' => hX.1 C _ k1 dx H' o e'.leaveX
/-- e.f of the exception -/
theorem ev_xf {f : Str} {d : D} {j : Nat} (he : EvD K te ro ka (.val (.adr a)) k1) (hj : k1[j]? = some (dx, .xd fs)) (hd : fs.lookup f = some d) : EvD K (tXf a (.ref C) (some dx) C f te) ro ka (.val d) k1 := fun B F0 ta sg H Q e q => he B F0 ta sg H _ e fun v H1 e1 => by
  have hv := e1.tm_adr List.mem_cons_self
  subst hv
  obtain ⟨F, g, e1⟩ := e1
  obtain ⟨_, _, xs, hx, rx⟩ := e1.ce _ (List.mem_of_getElem? hj)
  obtain ⟨v, l, rv⟩ := rpf_lookup rx hd
  exact ⟨rfl, rfl, dx, xs, v, rfl, hx, l, q v H1 ⟨F, g, (e1.held (ta' := ta) fun p hp => List.mem_cons_of_mem _ hp).push rv⟩⟩

/-! ### conversions -/
def rTupU (K : PySem.W.Frag) : List V → Hp → VK → Prop := fun xs H Q => ∃ p ys, xs = [.ref p] ∧ ((SqL K H p ys ∧ ∀ l, H l = none → Q (.ref l) (upd H l (.tup ys))) ∨ (SqT K H p ys ∧ Q (.ref p) H))
def rLstU (K : PySem.W.Frag) : List V → Hp → VK → Prop := fun xs H Q => ∃ p ys, xs = [.ref p] ∧ (SqL K H p ys ∨ SqT K H p ys) ∧ ∀ l, H l = none → Q (.ref l) (upd H l (.lst ys))
def rIntU : List V → Hp → VK → Prop := fun xs H Q => (∃ i, xs = [.int i] ∧ Q (.int i) H) ∨ ∃ k, xs = [.bl k] ∧ Q (.int (if k then 1 else 0)) H
theorem call_tupU {X : Cx} : CallR X (.type "tuple") (rTupU X.K) := call_tuple_of
theorem call_lstU {X : Cx} : CallR X (.type "list") (rLstU X.K) := call_list_of
theorem call_intU {X : Cx} : CallR X (.type "int") rIntU := call_int1
theorem rpl_imm {F G : Hp} : ∀ {ds : List D} {xs : List V}, ds.all imm = true → RpL K F ds xs → RpL K G ds xs
  | [], _, _, h => h
  | d :: ds, xs, hi, h => by
    obtain ⟨x, ys, rfl, h1, h2⟩ := h
    rw [List.all_cons, Bool.and_eq_true] at hi
    exact ⟨x, ys, rfl, imm_any hi.1 h1, rpl_imm hi.2 h2⟩
/-- a sequence's items may be told as frozen -/
def SqF (b : Bool) (ds : List D) : Prop := b = false ∨ ds.all imm = true
theorem SqF.to {ds : List D} {xs : List V} (h : SqF b ds) (r : RpL K (if b then uni B F else F) ds xs) : RpL K F ds xs := by
  rcases h with h | h
  · subst h; exact r
  · exact rpl_imm h r
theorem rc_tupL {ds : List D} (l : Lk ka w false ds b) (hf : SqF b ds) : RcD K (rTupU K) ka [w] (.val (.tup ds)) := fun B F0 ro ta sg H us Q e hl hm q => by
  obtain ⟨u, rfl, hu⟩ := zip_one hl hm
  obtain ⟨F, g, e⟩ := e
  obtain ⟨a, xs, rfl, h1, h2⟩ := l.get e (e.tm _ hu)
  have r2 := hf.to h2
  refine ⟨a, xs, rfl, .inl ⟨.inl h1, fun p hp => q _ _ ?_⟩⟩
  obtain ⟨e4, g4⟩ := e.lay (o := .tup xs) hp rfl
  exact ⟨_, g.trans g4, e4.push ⟨p, _, rfl, .inl (.inl upd_same), RpL.mono g4.sub.exz e.nz _ _ r2⟩⟩
theorem rcn_lst {t : Bool} {ds : List D} (l : Lk ka w t ds b) (hf : SqF b ds) : RcN K (rLstU K) ka [w] (.lst ds) := fun B F0 ro ta sg H us Q e hl hm q => by
  obtain ⟨u, rfl, hu⟩ := zip_one hl hm
  obtain ⟨F, g, e⟩ := e
  obtain ⟨a, xs, rfl, h1, h2⟩ := l.at e (e.tm _ hu)
  have r2 := hf.to h2
  exact ⟨a, xs, rfl, h1, fun p hp => q p _ ⟨F, g, e.cell (o := .lst xs) hp (n := .lst ds) ⟨_, upd_same, r2⟩⟩⟩
theorem rc_int {i : Int} : RcD K rIntU ka [.val (.int i)] (.val (.int i)) := fun B F0 ro ta sg H us Q e hl hm q => by
  obtain ⟨u, rfl, hu⟩ := zip_one hl hm
  obtain rfl := e.tm_int hu
  exact .inl ⟨i, rfl, q _ _ (e.push_imm fun _ => rfl)⟩
theorem rpl_bls {F : Hp} : ∀ {bs : List Bool} {xs : List V}, RpL K F (bs.map D.bl) xs → xs = bs.map V.bl
  | [], _, h => h
  | b :: bs, xs, h => by
    obtain ⟨x, ys, rfl, h1, h2⟩ := h
    rw [show x = V.bl b from h1, rpl_bls h2]
    rfl
theorem rc_all {bs : List Bool} (l : Lk ka w false (bs.map D.bl) b) : RcD K (rAll K) ka [w] (.val (.bl (bs.all id))) := fun B F0 ro ta sg H us Q e hl hm q => by
  obtain ⟨u, rfl, hu⟩ := zip_one hl hm
  obtain ⟨F, g, e⟩ := e
  obtain ⟨a, xs, rfl, h1, h2⟩ := l.get e (e.tm _ hu)
  have := rpl_bls h2
  subst this
  exact ⟨a, bs, rfl, .inl h1, q _ _ ⟨F, g, e.push rfl⟩⟩
/-- a sign in a text -/
theorem rv_inS {c : Nat} {s : Str} : RvD K rInS ka (.val (.str ⟨#[c]⟩)) (.val (.str s)) (.val (.bl (decide (c ∈ s.cps.toList)))) := fun B F0 ro ta sg H u v Q e h1 h2 q =>
  ⟨c, s, e.tm_str h1, e.tm_str h2, q _ _ (e.push_imm fun _ => rfl)⟩
/-- list * number, the list a cell -/
theorem evn_opC {r : R2} {m : Nd} {d : D} (ha : EvN K te ro ka n k1) (hb : EvD K tf ro k1 (.val d) k2) (hr : ∀ a, RvN K r (k2 ++ [(a, n)]) (.val (.adr a)) (.val d) m) : EvN K (tOp r te tf) ro ka m k2 := fun B F0 ta sg H Q e q =>
  ha B F0 ta sg H _ e fun a H1 e1 => by
    refine hb.fr [(a, n)] B F0 ((.ref a, .val (.adr a)) :: ta) sg H1 _ (e1.push_imm fun _ => rfl) fun v H2 e2 => ?_
    refine hr a B F0 ro _ sg H2 (.ref a) v Q e2 (List.mem_cons_of_mem _ List.mem_cons_self) List.mem_cons_self fun t H3 e3 => ?_
    refine q t H3 ((e3.less ?_).held fun p hp => List.mem_cons_of_mem _ (List.mem_cons_of_mem _ hp))
    exact (List.sublist_append_left k2 _).append (List.Sublist.refl _)
theorem rvn_rep {j : Nat} {ds : List D} {i : Int} (hj : ka[j]? = some (a, .lst ds)) (h0 : 0 ≤ i) (h1 : i ≤ 1000) (h2 : ds.length ≤ 1000) : RvN K rRep ka (.val (.adr a)) (.val (.int i)) (.lst (List.replicate i.toNat ds).flatten) := fun B F0 ro ta sg H u v Q e hu hv q => by
  obtain rfl := e.tm_adr hu
  obtain rfl := e.tm_int hv
  obtain ⟨F, g, e⟩ := e
  obtain ⟨xs, hx, rx⟩ := e.rd_lst hj
  refine ⟨a, i, xs, rfl, rfl, hx, by omega, by omega, ?_, fun p hp => q p _ ⟨F, g, e.cell (o := .lst (List.replicate i.toNat xs).flatten) hp (n := .lst (List.replicate i.toNat ds).flatten) ⟨_, upd_same, rpl_repl rx _⟩⟩⟩
  rw [rpl_len rx]
  have h3 : i.toNat ≤ 1000 := by omega
  exact Nat.le_trans (Nat.mul_le_mul h2 h3) (by decide)
theorem rpl_ints {F : Hp} : ∀ (zs : List Int), RpL K F (zs.map D.int) (zs.map V.int)
  | [] => rfl
  | z :: zs => ⟨.int z, _, rfl, rfl, rpl_ints zs⟩
/-- a slot's cell is frozen -/
theorem Gp.frz {i j : Nat} {ds : List D} (hi : ro[i]? = some (some (.val (.adr a)))) (hj : ka[j]? = some (a, .lst ds)) (h : Gp K B F0 ta P (ro.set i (some (.val (.lst ds)))) (ka.eraseIdx j)) : Gp K B F0 ta P ro ka := fun sg H e => by
  have hp : (ka.eraseIdx j ++ [(a, Nd.lst ds)]).Perm ka := by
    have hlt := (List.getElem?_eq_some_iff.mp hj).1
    have h2 : ka[j] = (a, Nd.lst ds) := (List.getElem?_eq_some_iff.mp hj).2
    have e3 : ka = ka.take j ++ (a, Nd.lst ds) :: ka.drop (j + 1) := by
      rw [← h2, List.getElem_cons_drop, List.take_append_drop]
    rw [List.eraseIdx_eq_take_drop_succ]
    refine List.Perm.trans List.perm_append_comm ?_
    show (((a, Nd.lst ds)) :: (ka.take j ++ ka.drop (j + 1))).Perm ka
    refine List.Perm.trans List.perm_middle.symm ?_
    rw [← e3]
  obtain ⟨F, g, e2⟩ := (e.perm hp).freeze_l
  refine h sg H ⟨F, g, (e2.frame (ro' := ro.set i (some (.val (.lst ds)))) (sg' := sg) (by rw [List.length_set]; exact e2.ln) fun k w q => ?_).held fun p hp => List.mem_cons_of_mem _ hp⟩
  by_cases hik : i = k
  · subst hik
    have hl := (List.getElem?_eq_some_iff.mp hi).1
    rw [List.getElem?_set_self hl] at q
    cases q
    obtain ⟨v, h1, h2⟩ := e2.sl i _ hi
    obtain rfl : v = .ref a := h2
    exact ⟨.ref a, h1, e2.tm _ List.mem_cons_self⟩
  · rw [List.getElem?_set_ne hik] at q
    exact e2.sl k w q
end
end DL

/-! DL1: contracts by number of arguments, bundles for the printed derivations (own work). -/
namespace DL
open PySem L2 PySem.W
abbrev Oc := Out → Cells → Prop
def Ct1 (R : W → Cells → Oc → Prop) : Ct := fun ws ka out => ∃ a, ws = [a] ∧ R a ka out
def Ct2 (R : W → W → Cells → Oc → Prop) : Ct := fun ws ka out => ∃ a b, ws = [a, b] ∧ R a b ka out
def Ct3 (R : W → W → W → Cells → Oc → Prop) : Ct := fun ws ka out => ∃ a b c, ws = [a, b, c] ∧ R a b c ka out
def Ct4 (R : W → W → W → W → Cells → Oc → Prop) : Ct := fun ws ka out => ∃ a b c d, ws = [a, b, c, d] ∧ R a b c d ka out
theorem ct1_len {R} : ∀ ws ka out, Ct1 R ws ka out → ws.length = 1 := fun _ _ _ ⟨_, h, _⟩ => by rw [h]; rfl
theorem ct2_len {R} : ∀ ws ka out, Ct2 R ws ka out → ws.length = 2 := fun _ _ _ ⟨_, _, h, _⟩ => by rw [h]; rfl
theorem ct3_len {R} : ∀ ws ka out, Ct3 R ws ka out → ws.length = 3 := fun _ _ _ ⟨_, _, _, h, _⟩ => by rw [h]; rfl
theorem ct4_len {R} : ∀ ws ka out, Ct4 R ws ka out → ws.length = 4 := fun _ _ _ ⟨_, _, _, _, h, _⟩ => by rw [h]; rfl
/-- how a call ends: it comes back with d, the cells k; it raises -/
def Rt (d : D) (k : Cells) : Oc := fun o k' => o = .ret d ∧ k' = k
def Xt (C : Addr) (fs : List (Str × D)) (k : Cells) : Oc := fun o k' => o = .exc C fs ∧ k' = k
def Nt (n : Nd) (k : Cells) : Oc := fun o k' => ∃ a, o = .ret (.adr a) ∧ k' = k ++ [(a, n)]
section
variable {X : Cx} {k : Nat} {f C : Addr} {ps : List Str} {E : XK} {Ct' : Ct} {x m : Str} {p pos apos : Pos} {e o : Expr} {es : List Expr} {ta te to ti : TE} {t : TA}
/-- an own error with one field -/
structure Xn (P : Program) (w : World) (K : PySem.W.Frag) (mg : Str → Option Value) (base : Heap) (C : Addr) (fld : Str) : Prop where
  xc : Xc K C
  no : findIn K (.ref C) fld = some none
  ex : ∃ fI fd x, findIn K (.ref C) "__init__" = some (some (.ref fI)) ∧ typeIn K (.ref fI) = some (.type "function") ∧ FnOk P w K mg base (L2.CX P w) 1 fI fd ["self", x] (spI1 K C fld) ∧ Binds K fd ["self", x] []
namespace Xn
variable {P : Program} {w : World} {K : PySem.W.Frag} {mg : Str → Option Value} {base : Heap} {C : Addr} {fld : Str}
noncomputable def fI (Z : Xn P w K mg base C fld) : Addr := Classical.choose Z.ex
noncomputable def fd (Z : Xn P w K mg base C fld) : FuncData := Classical.choose (Classical.choose_spec Z.ex)
noncomputable def px (Z : Xn P w K mg base C fld) : Str := Classical.choose (Classical.choose_spec (Classical.choose_spec Z.ex))
theorem all (Z : Xn P w K mg base C fld) : findIn K (.ref C) "__init__" = some (some (.ref Z.fI)) ∧ typeIn K (.ref Z.fI) = some (.type "function") ∧ FnOk P w K mg base (L2.CX P w) 1 Z.fI Z.fd ["self", Z.px] (spI1 K C fld) ∧ Binds K Z.fd ["self", Z.px] [] :=
  Classical.choose_spec (Classical.choose_spec (Classical.choose_spec Z.ex))
end Xn
end
end DL
namespace DL
open PySem L2 PySem.W
/-- a constant of the module -/
theorem pe_gv {X : Cx} {x : Str} {pos : Pos} {v : V} (hg : Gl X x) (h : ∃ u, X.mg x = some u ∧ RelV v u) (hd : (x == ("__debug__" : Str)) = false := by decide) : PE X (.Name x pos) (tC v) := let ⟨_, hm, r⟩ := h; pe_glob hg hm r hd
/-- what BlkOk asks, as one thing to be decided -/
def blkB (N : List Str) (sc scope : Scope) (own : List (Str × Nat)) : Bool :=
  decide (scope.kind = .function ∧ (∀ p ∈ own, N[p.2]? = some p.1) ∧ ∀ y ∈ scope.names, scope.names.lookup y.1 = some y.2 ∧ (y.2 = .free → sc.names.lookup y.1 = some .cell ∨ sc.names.lookup y.1 = some .free) ∧ (y.2 = .local ∨ y.2 = .cell → y.1 ∈ own.map (·.1) ∨ y.1 ∉ N))
theorem blk_ok {N : List Str} {sc scope : Scope} {own : List (Str × Nat)} (N' : List Str) (sc' : Scope) (eN : N = N') (eS : sc = sc') (h : blkB N' sc' scope own = true) : BlkOk N sc scope own :=
  let ⟨fn, at_, each⟩ := of_decide_eq_true h
  eN ▸ eS ▸ { kind := fn, uniq := fun y m => (each y m).1, ix := at_, free := fun y m => (each y m).2.1, own := fun y m => (each y m).2.2 }
end DL

/-! DM: shorter words (own work). -/
namespace DL
open PySem L2 PySem.W
section
variable {K : PySem.W.Frag} {B F F0 : Hp} {ro : Ro} {ka k1 k2 k3 kr : Cells} {ta : List (V × W)} {sg : L2.St} {H H' : Hp} {te tf tg : TE} {tr : TA} {tt tu : TT} {w x y z : W} {n m : Nd} {C dx a : Addr} {fs : List (Str × D)} {b : Bool} {P : L2.St → Hp → Prop} {De : Ends} {t u : TS} {E : XK}
theorem ea1 (h : EvD K te ro ka x k1) : EvA K (tCons te tNil) ro ka [x] k1 := ea_cons h ea_nil
theorem ea2 (h : EvD K te ro ka x k1) (h2 : EvD K tf ro k1 y k2) : EvA K (tCons te (tCons tf tNil)) ro ka [x, y] k2 := ea_cons h (ea1 h2)
theorem ea3 (h : EvD K te ro ka x k1) (h2 : EvD K tf ro k1 y k2) (h3 : EvD K tg ro k2 z k3) : EvA K (tCons te (tCons tf (tCons tg tNil))) ro ka [x, y, z] k3 := ea_cons h (ea2 h2 h3)
theorem EvA.to {ws ws' : List W} (h : EvA K tr ro ka ws k1) (e : ws = ws') : EvA K tr ro ka ws' k1 := e ▸ h
/-- the built-in type of data -/
def tyD : D → Option String
  | .non => some "NoneType" | .bl _ => some "bool" | .int _ => some "int" | .str _ => some "str" | .lst _ => some "list" | .tup _ => some "tuple"
  | _ => none
theorem tw_of {d : D} {T : String} (h : tyD d = some T) : Tw K ka (.val d) (.type T) := by
  cases d <;> cases h
  · exact .non
  · exact .bl
  · exact .int
  · exact .str
  · exact .tup .vt
  · exact .lst .vl
theorem ev_isi {T : String} {t : Value} (h : EvD K te ro ka w k1) (l : Tw K k1 w t) (e : kitOne K t (.type T) = some b) : EvD K (tCB (rIsi K) (tCons te (tCons (tC (.ty T)) tNil))) ro ka (.val (.bl b)) k1 := ev_cb (ea2 h ev_ty) (rc_isi l e)
theorem ev_len {t b : Bool} {ds : List D} (h : EvD K te ro ka w k1) (l : Lk k1 w t ds b) : EvD K (tCB (rLenU K) (tCons te tNil)) ro ka (.val (.int ds.length)) k1 := ev_cb (ea1 h) (rc_len l)
theorem ev_lenS {s : Str} (h : EvD K te ro ka (.val (.str s)) k1) (hs : s.length ≤ 100000) : EvD K (tCB (rLenU K) (tCons te tNil)) ro ka (.val (.int s.length)) k1 := ev_cb (ea1 h) (rc_lenS hs)
theorem ev_eq {d e : D} (h : EvD K te ro ka x k1) (h2 : EvD K tf ro k1 y k2) (l1 : Pk k2 x d) (l2 : Pk k2 y e) (p1 : pl 61 d = true) (p2 : pl 61 e = true) : EvD K (tOp (rEqP K false) te tf) ro ka (.val (.bl (eqD d e))) k2 := ev_op h h2 (rv_eqP l1 l2 p1 p2)
theorem ev_ne {d e : D} (h : EvD K te ro ka x k1) (h2 : EvD K tf ro k1 y k2) (l1 : Pk k2 x d) (l2 : Pk k2 y e) (p1 : pl 61 d = true) (p2 : pl 61 e = true) : EvD K (tOp (rEqP K true) te tf) ro ka (.val (.bl (!eqD d e))) k2 := ev_op h h2 (rv_neP l1 l2 p1 p2)
theorem ev_eqI {i j : Int} (h : EvD K te ro ka (.val (.int i)) k1) (h2 : EvD K tf ro k1 (.val (.int j)) k2) : EvD K (tOp (rEqP K false) te tf) ro ka (.val (.bl (i == j))) k2 := ev_eq h h2 .v .v rfl rfl
theorem ev_neI {i j : Int} (h : EvD K te ro ka (.val (.int i)) k1) (h2 : EvD K tf ro k1 (.val (.int j)) k2) : EvD K (tOp (rEqP K true) te tf) ro ka (.val (.bl (!(i == j)))) k2 := ev_ne h h2 .v .v rfl rfl
theorem ev_eqS {i j : Str} (h : EvD K te ro ka (.val (.str i)) k1) (h2 : EvD K tf ro k1 (.val (.str j)) k2) : EvD K (tOp (rEqP K false) te tf) ro ka (.val (.bl (i == j))) k2 := ev_eq h h2 .v .v rfl rfl
theorem ev_addI {i j : Int} (h : EvD K te ro ka (.val (.int i)) k1) (h2 : EvD K tf ro k1 (.val (.int j)) k2) : EvD K (tOp (rAddU K) te tf) ro ka (.val (.int (i + j))) k2 := ev_op h h2 rv_addI
theorem ev_subI {i j : Int} (h : EvD K te ro ka (.val (.int i)) k1) (h2 : EvD K tf ro k1 (.val (.int j)) k2) : EvD K (tOp rSubI te tf) ro ka (.val (.int (i - j))) k2 := ev_op h h2 rv_sub
theorem ev_mulI {i j : Int} (h : EvD K te ro ka (.val (.int i)) k1) (h2 : EvD K tf ro k1 (.val (.int j)) k2) (c : IntMulOk i j) : EvD K (tOp rMulU te tf) ro ka (.val (.int (i * j))) k2 := ev_op h h2 (rvd_l (rv_I c fun _ => rfl))
theorem ev_mulL {i j : Int} (h : EvD K te ro ka (.val (.int i)) k1) (h2 : EvD K tf ro k1 (.val (.int j)) k2) (c : Builtin.Int.intBits i ≤ 64 := by decide) : EvD K (tOp rMulU te tf) ro ka (.val (.int (i * j))) k2 := ev_mulI h h2 (.of_left c)
theorem ev_mulR {i j : Int} (h : EvD K te ro ka (.val (.int i)) k1) (h2 : EvD K tf ro k1 (.val (.int j)) k2) (c : Builtin.Int.intBits j ≤ 64 := by decide) : EvD K (tOp rMulU te tf) ro ka (.val (.int (i * j))) k2 := ev_mulI h h2 (.of_right c)
theorem ev_modI {i j : Int} (h : EvD K te ro ka (.val (.int i)) k1) (h2 : EvD K tf ro k1 (.val (.int j)) k2) (c : 0 < j) : EvD K (tOp rModI te tf) ro ka (.val (.int (i % j))) k2 := ev_op h h2 (rv_mod c)
theorem ev_divI {i j : Int} (h : EvD K te ro ka (.val (.int i)) k1) (h2 : EvD K tf ro k1 (.val (.int j)) k2) (c : CDiv i j) : EvD K (tOp rDivI te tf) ro ka (.val (.int (i / j))) k2 := ev_op h h2 (rv_div c)
theorem ev_powI {i j : Int} (h : EvD K te ro ka (.val (.int i)) k1) (h2 : EvD K tf ro k1 (.val (.int j)) k2) (c : CPow i j) : EvD K (tOp rPowI te tf) ro ka (.val (.int (i ^ j.toNat))) k2 := ev_op h h2 (rv_pow c)
theorem ev_lt {i j : Int} (h : EvD K te ro ka (.val (.int i)) k1) (h2 : EvD K tf ro k1 (.val (.int j)) k2) : EvD K (tOp rLtI te tf) ro ka (.val (.bl (decide (i < j)))) k2 := ev_op h h2 rv_lt
theorem ev_gt {i j : Int} (h : EvD K te ro ka (.val (.int i)) k1) (h2 : EvD K tf ro k1 (.val (.int j)) k2) : EvD K (tOp rGtI te tf) ro ka (.val (.bl (decide (j < i)))) k2 := ev_op h h2 rv_gt
theorem ev_ge {i j : Int} (h : EvD K te ro ka (.val (.int i)) k1) (h2 : EvD K tf ro k1 (.val (.int j)) k2) : EvD K (tOp rGeI te tf) ro ka (.val (.bl (decide (j ≤ i)))) k2 := ev_op h h2 rv_ge
theorem ev_int1 {i : Int} (h : EvD K te ro ka (.val (.int i)) k1) : EvD K (tCB rIntU (tCons te tNil)) ro ka (.val (.int i)) k1 := ev_cb (ea1 h) rc_int
theorem ev_addS {i j : Str} (h : EvD K te ro ka (.val (.str i)) k1) (h2 : EvD K tf ro k1 (.val (.str j)) k2) (hz : i.length + j.length ≤ 100000) : EvD K (tOp (rAddU K) te tf) ro ka (.val (.str (i ++ j))) k2 := ev_op h h2 (rv_addS hz)
theorem ev_ix {t b : Bool} {ds : List D} {i : Int} {d : D} (h : EvD K te ro ka w k1) (h2 : EvD K tf ro k1 (.val (.int i)) k2) (l : Lk k2 w t ds b) (hd : atI ds i = some d) : EvD K (tOp (rIx K) te tf) ro ka (part b d) k2 := ev_op h h2 (rv_ix l hd)
theorem ev_ixV {t : Bool} {ds : List D} {i : Int} {d : D} (h : EvD K te ro ka w k1) (h2 : EvD K tf ro k1 (.val (.int i)) k2) (l : Lk k2 w t ds false) (hd : atI ds i = some d) : EvD K (tOp (rIx K) te tf) ro ka (.val d) k2 := ev_ix h h2 l hd
theorem ev_ixS {s : Str} {i : Int} {c : Nat} (h : EvD K te ro ka (.val (.str s)) k1) (h2 : EvD K tf ro k1 (.val (.int i)) k2) (hs : s.length ≤ 100000) (hc : atI s.cps.toList i = some c) : EvD K (tOp (rIx K) te tf) ro ka (.val (.str ⟨#[c]⟩)) k2 := ev_op h h2 (rv_ixS hs hc)
theorem ev_inS {c : Nat} {s : Str} (h : EvD K te ro ka (.val (.str ⟨#[c]⟩)) k1) (h2 : EvD K tf ro k1 (.val (.str s)) k2) : EvD K (tOp (rInU K) te tf) ro ka (.val (.bl (decide (c ∈ s.cps.toList)))) k2 := ev_op h h2 (rvd_l rv_inS)
theorem rv_niS {c : Nat} {s : Str} : RvD K rNotInS ka (.val (.str ⟨#[c]⟩)) (.val (.str s)) (.val (.bl (!decide (c ∈ s.cps.toList)))) := fun B F0 ro ta sg H u v Q e h1 h2 q =>
  ⟨c, s, e.tm_str h1, e.tm_str h2, q _ _ (e.push_imm fun _ => rfl)⟩
theorem ev_niS {c : Nat} {s : Str} (h : EvD K te ro ka (.val (.str ⟨#[c]⟩)) k1) (h2 : EvD K tf ro k1 (.val (.str s)) k2) : EvD K (tOp (rNiU K) te tf) ro ka (.val (.bl (!decide (c ∈ s.cps.toList)))) k2 := ev_op h h2 (rvd_l rv_niS)
theorem rv_catT {ds es : List D} (hz : ds.length + es.length ≤ 100000) : RvD K (rAddU K) ka (.val (.tup ds)) (.val (.tup es)) (.val (.tup (ds ++ es))) := rvd_r (rvd_r (rvd_r fun B F0 ro ta sg H u v Q e h1 h2 q => by
  obtain ⟨F, g, e⟩ := e
  obtain ⟨a, xs, rfl, s1, r1⟩ := Lk.vt.get e (e.tm _ h1)
  obtain ⟨b, ys, rfl, s2, r2⟩ := Lk.vt.get e (e.tm _ h2)
  refine ⟨a, b, xs, ys, rfl, rfl, s1, s2, by rw [rpl_len r1, rpl_len r2]; exact Nat.le_trans hz (by decide), fun h0 => ?_, fun _ h0 => ?_, fun _ _ p hp => ?_⟩
  · have hd : ds = [] := List.eq_nil_of_length_eq_zero (by rw [← rpl_len r1, h0]; rfl)
    subst hd
    exact q _ _ ⟨F, g, e.push (e.tm _ h2)⟩
  · have hd : es = [] := List.eq_nil_of_length_eq_zero (by rw [← rpl_len r2, h0]; rfl)
    subst hd
    rw [List.append_nil] at q
    exact q _ _ ⟨F, g, e.push (e.tm _ h1)⟩
  · obtain ⟨e4, g4⟩ := e.lay (o := .tup (xs ++ ys)) hp rfl
    exact q _ _ ⟨_, g.trans g4, e4.push ⟨p, _, rfl, .inl (.inl upd_same), RpL.mono g4.sub.exz e.nz _ _ (rpl_app r1 r2)⟩⟩))
theorem ev_catT {ds es : List D} (h : EvD K te ro ka (.val (.tup ds)) k1) (h2 : EvD K tf ro k1 (.val (.tup es)) k2) (hz : ds.length + es.length ≤ 100000) : EvD K (tOp (rAddU K) te tf) ro ka (.val (.tup (ds ++ es))) k2 := ev_op h h2 (rv_catT hz)

/-! ### calls -/
/-- a contract that works on no cells -/
theorem ev_callP {Cc : Ct} {ws : List W} {d : D} (ha : EvA K tr ro ka ws k1) (hC : Cc ws [] (Rt d [])) : EvD K (tCall (spC K Cc) [] E tr) ro ka (.val d) k1 := ev_callF (k1 := []) (k2 := []) k1 ha hC fun _ _ h => h
/-- .. on the first cell -/
theorem ev_call1 {Cc : Ct} {ws : List W} {d : D} (ha : EvA K tr ro ka ws ((a, n) :: kr)) (hC : Cc ws [(a, n)] (Rt d [(a, m)])) : EvD K (tCall (spC K Cc) [] E tr) ro ka (.val d) ((a, m) :: kr) := ev_callF (k1 := [(a, n)]) (k2 := [(a, m)]) kr ha hC fun _ _ h => h
theorem evn_callP {Cc : Ct} {ws : List W} (ha : EvA K tr ro ka ws k1) (hC : Cc ws [] (Nt m [])) : EvN K (tCall (spC K Cc) [] E tr) ro ka m k1 := evn_call (k1 := []) (k2 := []) k1 ha hC fun _ _ h => h
/-- the call's end is told by a word: any data, any cells -/
theorem sp_rel {Cc : Ct} {ws : List W} {out : Oc} {vs : List V} {Q : VK} (e : En K B F0 ro (ka ++ kr) (vs.zip ws ++ ta) sg H) (hl : vs.length = ws.length) (hC : Cc ws ka out) (ho : ∀ o k, out o k → ∃ d, o = .ret d)
    (q : ∀ d k2 v H', out (.ret d) k2 → En K B F0 ro (k2 ++ kr) ((v, .val d) :: ta) sg H' → Q v H') : spC K Cc vs H Q E := by
  obtain ⟨F, g, e⟩ := e
  refine ⟨off H ka, F, ws, ka, out, hC, hl, ⟨F, Gr.refl _ _, e.into (ro' := []) (sg' := []) (ta' := vs.zip ws) rfl (fun i w h => by simp at h) fun p hp => List.mem_append_left _ hp⟩, fun d' k v H' o ⟨F', g', e'⟩ => ?_, fun C fs k dx H' o _ => ?_, fun C k H' o _ => ?_⟩
  · obtain ⟨g2, e2⟩ := e.back g' e' (tb := (v, .val d') :: ta) fun p hp => by
      rcases List.mem_cons.mp hp with rfl | hp
      · exact .inr ⟨d', rfl, List.mem_cons_self⟩
      · exact .inl (List.mem_append_right _ hp)
    exact q d' k v H' o ⟨F', g.trans g2, e2⟩
  · obtain ⟨_, z⟩ := ho _ _ o
    cases z
  · obtain ⟨_, z⟩ := ho _ _ o
    cases z
theorem g_call {Cc : Ct} {ws : List W} {out : Oc} {i : Nat} (kr : Cells) (ha : EvA K tr ro ka ws (k1 ++ kr)) (hC : Cc ws k1 out) (ho : ∀ o k, out o k → ∃ d, o = .ret d) (k : ∀ d k2, out (.ret d) k2 → Gp K B F0 ta De.nx (ro.set i (some (.val d))) (k2 ++ kr)) :
    Gp K B F0 ta (tAsg (tCall (spC K Cc) [] E tr) (gName i) De) ro ka := fun sg H e => ha B F0 ta sg H _ e fun vs H1 hl e1 => by
  rw [List.append_nil]
  exact sp_rel e1 hl hC ho fun d k2 v H' o e2 => k d k2 o _ _ (e2.set i)
theorem q_call {Cc : Ct} {ws : List W} {out : Oc} {i : Nat} (kr : Cells) (ha : EvA K tr ro ka ws (k1 ++ kr)) (hC : Cc ws k1 out) (ho : ∀ o k, out o k → ∃ d, o = .ret d) (k : ∀ d k2, out (.ret d) k2 → Gp K B F0 ta (u De) (ro.set i (some (.val d))) (k2 ++ kr)) :
    Gp K B F0 ta (tSeq (tAsg (tCall (spC K Cc) [] E tr) (gName i)) u De) ro ka := g_call (De := { De with nx := u De }) kr ha hC ho k
/-! ### returns -/
/-- a new cell is handed back as data -/
theorem g_retL {out : Oc} {ds : List D} (hr : RtOk K B F0 out De.rt) (h : EvN K te ro ka (.lst ds) k1) (o : out (.ret (.lst ds)) k1) : Gp K B F0 ta (tRet te De) ro ka := g_ret hr h.lst o
/-- .. as a cell -/
theorem g_retC {out : Oc} (hr : RtOk K B F0 out De.rt) (h : EvN K te ro ka n k1) (o : ∀ a, out (.ret (.adr a)) (k1 ++ [(a, n)])) : Gp K B F0 ta (tRet te De) ro ka := fun sg H e => h B F0 ta sg H _ e fun a H1 e1 =>
  hr (.adr a) _ (.ref a) H1 (o a) ((e1.push_imm (v := .ref a) (w := .val (.adr a)) fun _ => rfl).leave)
/-- .. of which a word tells -/
theorem g_retR {out : Oc} {R : Nd → Cells → Prop} (hr : RtOk K B F0 out De.rt) (h : EvNR K te ro ka R) (o : ∀ n k, R n k → ∃ ds, n = .lst ds ∧ out (.ret (.lst ds)) k) : Gp K B F0 ta (tRet te De) ro ka := fun sg H e => h B F0 ta sg H _ e fun n k a H1 r e1 => by
  obtain ⟨ds, rfl, o⟩ := o n k r
  exact hr (.lst ds) k (.ref a) H1 o e1.freeze_l.leave
theorem g_asgNR {R : Nd → Cells → Prop} {i : Nat} (h : EvNR K te ro ka R) (k : ∀ n k1 a, R n k1 → Gp K B F0 ta De.nx (ro.set i (some (.val (.adr a)))) (k1 ++ [(a, n)])) : Gp K B F0 ta (tAsg te (gName i) De) ro ka := fun sg H e => h B F0 ta sg H _ e fun n k1 a H1 r e1 => k n k1 a r _ _ (e1.setA i a)
theorem q_asgNR {R : Nd → Cells → Prop} {i : Nat} (h : EvNR K te ro ka R) (k : ∀ n k1 a, R n k1 → Gp K B F0 ta (u De) (ro.set i (some (.val (.adr a)))) (k1 ++ [(a, n)])) : Gp K B F0 ta (tSeq (tAsg te (gName i)) u De) ro ka := g_asgNR (De := { De with nx := u De }) h k
theorem Gp.perm (h : Gp K B F0 ta P ro k1) (s : k1.Perm ka) : Gp K B F0 ta P ro ka := fun sg H e => h sg H (e.perm s)
end
end DL

/-! DN: comprehensions that map and choose; names, numbers (own work). -/
namespace DL
open PySem L2 PySem.W
section
variable {K : PySem.W.Frag} {ro : Ro} {ka k1 : Cells} {te : TE} {tt : TT} {wi : TI} {C : Cells → Prop} {j : Nat} {vs : List Nat} {α : Type}
theorem et_yes : EvT K tYes ro ka true ka := fun B F0 ta sg H Q e q => q H e
theorem take_succ_some {xs : List α} {i : Nat} {x : α} (h : xs[i]? = some x) : xs.take (i + 1) = xs.take i ++ [x] := by
  rw [List.take_succ, h]
  rfl
theorem evn_filt {xs : List α} {g : α → W} {f : α → D} {p : α → Bool} (h : EvI K wi ro ka (xs.map g) C k1) (hj : j ∈ vs) (hn : xs.length ≤ 1000000) (hC : C k1 ∧ ∀ x, C (k1 ++ [x]))
    (ht : ∀ x ∈ xs, EvT K tt ((wipeR ro vs).set j (some (g x))) k1 (p x) k1) (hs : ∀ x ∈ xs, p x = true → EvD K te ((wipeR ro vs).set j (some (g x))) k1 (.val (f x)) k1) : EvN K (tLc wi (gName j) tt te vs) ro ka (.lst ((xs.filter p).map f)) k1 := by
  refine evn_lc h hj (by rw [List.length_map]; exact hn) (fun i acc k => acc = ((xs.take i).filter p).map f ∧ k = k1) ⟨rfl, rfl⟩ (fun i acc k ⟨_, e⟩ => by subst e; exact hC) (fun i w acc k hw ⟨e1, e2⟩ => ?_) (fun acc k ⟨e1, e2⟩ => ⟨?_, e2⟩)
  · subst e1 e2
    rw [List.getElem?_map] at hw
    cases hx : xs[i]? with
    | none => rw [hx] at hw; cases hw
    | some x =>
      rw [hx] at hw
      cases hw
      have hm : x ∈ xs := List.mem_of_getElem? hx
      cases hp : p x with
      | false =>
        refine .inl ⟨k, hp ▸ ht x hm, ?_, rfl⟩
        rw [take_succ_some hx, List.filter_append]
        simp [hp]
      | true =>
        refine .inr ⟨k, k, f x, hp ▸ ht x hm, hs x hm hp, ?_, rfl⟩
        rw [take_succ_some hx, List.filter_append]
        simp [hp]
  · rw [e1, List.length_map, List.take_length]
theorem evn_map {xs : List α} {g : α → W} {f : α → D} (h : EvI K wi ro ka (xs.map g) C k1) (hj : j ∈ vs) (hn : xs.length ≤ 1000000) (hC : C k1 ∧ ∀ x, C (k1 ++ [x]))
    (hs : ∀ x ∈ xs, EvD K te ((wipeR ro vs).set j (some (g x))) k1 (.val (f x)) k1) : EvN K (tLc wi (gName j) tYes te vs) ro ka (.lst (xs.map f)) k1 := by
  have := evn_filt (tt := tYes) (p := fun _ => true) h hj hn hC (fun _ _ => et_yes) (fun x hx _ => hs x hx)
  have e : xs.filter (fun _ => true) = xs := List.filter_eq_self.mpr fun _ _ => rfl
  rwa [e] at this
end
/-! ### texts -/
theorem str_len (s : Str) : s.length = s.cps.toList.length := by
  show s.cps.size = _
  simp
theorem str_ext {s t : Str} (h : s.cps.toList = t.cps.toList) : s = t := by
  cases s with
  | mk a =>
    cases t with
    | mk b =>
      have : a = b := by
        have h2 : a.toList = b.toList := h
        exact Array.toList_inj.mp h2
      rw [this]
theorem str_nil {s : Str} (h : s.cps.toList = []) : s = ("" : Str) := str_ext h
def letL : List Nat := ("abcdefghijklmnopqrstuvwxyz" : Str).cps.toList
def digL : List Nat := ("0123456789" : Str).cps.toList
/-- is a text a name: its signs -/
def nmL : List Nat → Bool
  | [] => false
  | c :: r => decide ((c :: r).length ≤ 8) && (decide (c ∈ letL) && (c :: r).all fun x => decide (x ∈ letL) || decide (x ∈ digL))
def isNm (s : Str) : Bool := nmL s.cps.toList
theorem isNm_len {s : Str} (h : isNm s = true) : s.length ≤ 8 := by
  unfold isNm at h
  rw [str_len]
  cases hc : s.cps.toList with
  | nil => simp
  | cons c r =>
    rw [hc] at h
    unfold nmL at h
    rw [Bool.and_eq_true] at h
    exact of_decide_eq_true h.1
/-- .. data -/
def isNmD : D → Bool
  | .str s => isNm s
  | _ => false
/-- data that a name's test may be asked of -/
def nmOk : D → Prop
  | .str s => s.length ≤ 1000
  | d => tyD d ≠ none
theorem at0 {β : Type} {c : β} {r : List β} : atI (c :: r) 0 = some c := atI_nat (j := 0) rfl
theorem atZ {β : Type} {xs : List β} {i : Int} {x : β} (h0 : 0 ≤ i) (h : xs[i.toNat]? = some x) : atI xs i = some x := by
  have := atI_nat h
  rwa [Int.toNat_of_nonneg h0] at this
/-! ### cuts -/
theorem six_nat {n : Nat} {i : Int} (h0 : 0 ≤ i) (h1 : i ≤ n) (d : Nat) : HT.sIx n d (some i) = i.toNat := by
  unfold HT.sIx
  simp only
  first
    | omega
    | (split <;> omega)
    | (repeat' split) <;> omega
theorem six_none {n d : Nat} : HT.sIx n d none = d := rfl
theorem cut_from {β : Type} {xs : List β} {i : Int} (h0 : 0 ≤ i) (h1 : i ≤ xs.length) : cutD xs (some i) none = xs.drop i.toNat := by
  unfold cutD
  rw [six_nat h0 h1, six_none]
  exact List.take_of_length_le (by rw [List.length_drop]; exact Nat.le_refl _)
theorem cut_to {β : Type} {xs : List β} {i : Int} (h0 : 0 ≤ i) (h1 : i ≤ xs.length) : cutD xs none (some i) = xs.take i.toNat := by
  unfold cutD
  rw [six_nat h0 h1, six_none, List.drop_zero, Nat.sub_zero]
theorem cut_len {β : Type} (xs : List β) (lo hi : Option Int) : (cutD xs lo hi).length ≤ xs.length := by
  unfold cutD
  rw [List.length_take, List.length_drop]
  omega
def stD (ss : List Str) : List D := ss.map .str
theorem stD_len (ss : List Str) : (stD ss).length = ss.length := List.length_map ..
theorem pl_stD (ss : List Str) (n : Nat) : (stD ss).all (pl n) = true := List.all_eq_true.mpr fun d hd => by
  obtain ⟨s, _, rfl⟩ := List.mem_map.mp hd
  cases n <;> rfl
theorem lk1 {β : Type} {f : Str} {v : β} : List.lookup f [(f, v)] = some v := by simp [List.lookup]
section
variable {K : PySem.W.Frag} {ka kr : Cells} {w : W} {t b : Bool} {ds : List D}
theorem Lk.stay (l : Lk ka w t ds b) : Stay w ds ka := by
  cases l with
  | vl => trivial
  | vt => trivial
  | wl => trivial
  | wt => trivial
  | ce j h => exact List.mem_of_getElem? h
theorem Lk.app (l : Lk ka w t ds b) : Lk (ka ++ kr) w t ds b := l.mono _ (by
  have := l.stay
  unfold Stay at this ⊢
  split
  · rename_i a
    exact List.mem_append_left _ this
  · trivial)
end
theorem find_first {β : Type} {p : β → Bool} {ds : List β} {i : Nat} {d : β} (h : ∀ e ∈ ds.take i, p e = false) (hi : ds[i]? = some d) (hp : p d = true) : ds.find? p = some d := by
  have e : ds = ds.take i ++ d :: ds.drop (i + 1) := by
    have hl := (List.getElem?_eq_some_iff.mp hi).1
    have h2 : ds[i] = d := (List.getElem?_eq_some_iff.mp hi).2
    rw [← h2, List.getElem_cons_drop, List.take_append_drop]
  rw [e, List.find?_append, List.find?_eq_none.mpr (fun x hx => by rw [h x hx]; exact Bool.false_ne_true)]
  simp [hp]
end DL
namespace DL
open PySem L2 PySem.W
section
variable {K : PySem.W.Frag} {B F0 : Hp} {ro : Ro} {ka k1 k2 : Cells} {ta : List (V × W)} {tt : TT} {De : Ends} {t u : TS}
/-- an if whose ends meet again under a word -/
theorem q_whenI {b : Bool} (Inv : Ro → Cells → Prop) (h : EvT K tt ro ka b k1) (h1 : b = true → ∀ nx, (∀ ro2 ka2, Inv ro2 ka2 → Gp K B F0 ta nx ro2 ka2) → Gp K B F0 ta (t { De with nx := nx }) ro k1) (h2 : b = false → Inv ro k1) (k : ∀ ro2 ka2, Inv ro2 ka2 → Gp K B F0 ta (u De) ro2 ka2) : Gp K B F0 ta (tSeq (tIfS tt t tNext) u De) ro ka :=
  q_when h (fun hb => h1 hb _ k) fun hb => k _ _ (h2 hb)
theorem q_ifI {b : Bool} {t' : TS} (Inv : Ro → Cells → Prop) (h : EvT K tt ro ka b k1) (h1 : b = true → ∀ nx, (∀ ro2 ka2, Inv ro2 ka2 → Gp K B F0 ta nx ro2 ka2) → Gp K B F0 ta (t { De with nx := nx }) ro k1) (h2 : b = false → ∀ nx, (∀ ro2 ka2, Inv ro2 ka2 → Gp K B F0 ta nx ro2 ka2) → Gp K B F0 ta (t' { De with nx := nx }) ro k1) (k : ∀ ro2 ka2, Inv ro2 ka2 → Gp K B F0 ta (u De) ro2 ka2) : Gp K B F0 ta (tSeq (tIfS tt t t') u De) ro ka :=
  q_if h (fun hb => h1 hb _ k) fun hb => h2 hb _ k
end
/-! ### the pool of the laws -/
structure Pl where
  a : Int
  b : Int
  c : Int
def Pl.ds (p : Pl) : List D := [.int p.a, .int p.b, .int p.c]
structure Pl.Ok (p : Pl) (n : Int) : Prop where
  a0 : 0 ≤ p.a
  b0 : 0 ≤ p.b
  b1 : p.b < 1000000007
  c0 : 0 ≤ p.c
  c1 : p.c ≤ n
theorem Pl.Ok.up {p : Pl} {m n : Int} (h : p.Ok m) (l : m ≤ n) : p.Ok n := ⟨h.a0, h.b0, h.b1, h.c0, Int.le_trans h.c1 l⟩
def fldZ (z : Int) : Int := if z < 0 then 0 - 2 * z - 1 else 2 * z
def plOf (z : Int) : Pl := if fldZ z ≥ 10 ^ 18 then ⟨fldZ z, fldZ z % 1000000007, 0⟩ else ⟨0, fldZ z % 1000000007, 0⟩
theorem fldZ_nn (z : Int) : 0 ≤ fldZ z := by
  unfold fldZ
  split <;> omega
theorem plOf_ok (z : Int) : (plOf z).Ok 0 := by
  have h := fldZ_nn z
  have h0 : 0 ≤ fldZ z % 1000000007 := Int.emod_nonneg _ (by decide)
  have h1 : fldZ z % 1000000007 < 1000000007 := Int.emod_lt_of_pos _ (by decide)
  unfold plOf
  split
  · exact ⟨h, h0, h1, Int.le_refl _, Int.le_refl _⟩
  · exact ⟨Int.le_refl _, h0, h1, Int.le_refl _, Int.le_refl _⟩
/-- one draw below m -/
def tk (p : Pl) (m : Int) : Int × Pl :=
  if 0 < p.a then (p.a % m, ⟨p.a / m, p.b, p.c⟩)
  else (((p.b + 7919 * (p.c + 1) + 104729) ^ (5 : Int).toNat % 2147483647 + (p.c + 1)) * 40692 % 2147483629 % m, ⟨p.a, p.b, p.c + 1⟩)
theorem tk_lt (p : Pl) {m : Int} (h : 0 < m) : 0 ≤ (tk p m).1 ∧ (tk p m).1 < m := by
  unfold tk
  split
  · exact ⟨Int.emod_nonneg _ (by omega), Int.emod_lt_of_pos _ h⟩
  · exact ⟨Int.emod_nonneg _ (by omega), Int.emod_lt_of_pos _ h⟩
theorem tk_ok {p : Pl} {n m : Int} (h : p.Ok n) (hm : 0 < m) : (tk p m).2.Ok (n + 1) := by
  obtain ⟨h1, h2, h3, h4, h5⟩ := h
  unfold tk
  split
  · exact ⟨Int.ediv_nonneg h1 (by omega), h2, h3, h4, by show p.c ≤ n + 1; omega⟩
  · exact ⟨h1, h2, h3, by show 0 ≤ p.c + 1; omega, by show p.c + 1 ≤ n + 1; omega⟩
end DL

/-! DP: texts by their signs (own work). -/
namespace DL
open PySem L2 PySem.W
/-- the text of these signs -/
def tx (l : List Nat) : Str := ⟨l.toArray⟩
theorem tx_cps (l : List Nat) : (tx l).cps.toList = l := rfl
theorem tx_len (l : List Nat) : (tx l).length = l.length := by rw [str_len, tx_cps]
theorem tx_app (l m : List Nat) : tx l ++ tx m = tx (l ++ m) := by
  refine str_ext ?_
  show ((tx l).cps ++ (tx m).cps).toList = l ++ m
  rw [Array.toList_append]
  rfl
theorem tx_cut (l : List Nat) (lo hi : Option Int) : cutS (tx l) lo hi = tx (cutD l lo hi) := by
  unfold cutS cutD
  rw [tx_cps, tx_len]
  rfl
theorem letters_tx : ("abcdefghijklmnopqrstuvwxyz" : Str) = tx letL := str_ext rfl
theorem digits_tx : ("0123456789" : Str) = tx digL := str_ext rfl
theorem let_len : letL.length = 26 := by decide
theorem sig_len : (letL ++ digL).length = 36 := by decide
theorem isNm_tx (l : List Nat) : isNm (tx l) = nmL l := by unfold isNm; rw [tx_cps]
theorem nmL_of {c : Nat} {r : List Nat} (h : c ∈ letL) (h2 : ∀ x ∈ c :: r, x ∈ letL ++ digL) (hl : (c :: r).length ≤ 8) : nmL (c :: r) = true := by
  show (decide ((c :: r).length ≤ 8) && (decide (c ∈ letL) && (c :: r).all fun x => decide (x ∈ letL) || decide (x ∈ digL))) = true
  rw [decide_eq_true hl, decide_eq_true h, Bool.true_and, Bool.true_and, List.all_eq_true]
  intro x hx
  rw [Bool.or_eq_true, decide_eq_true_eq, decide_eq_true_eq]
  exact List.mem_append.mp (h2 x hx)
/-- a name, its signs -/
theorem nm_of {l : List Nat} (h0 : ∃ c, l.head? = some c ∧ c ∈ letL) (h2 : ∀ x ∈ l, x ∈ letL ++ digL) (hl : l.length ≤ 8) : isNm (tx l) = true := by
  rw [isNm_tx]
  obtain ⟨c, hc, hm⟩ := h0
  cases l with
  | nil => cases hc
  | cons d r =>
    cases hc
    exact nmL_of hm h2 hl
/-- a drawn sign -/
theorem sgn_at {l : List Nat} {i : Int} (h0 : 0 ≤ i) (h1 : i < l.length) : ∃ c, atI l i = some c ∧ c ∈ l := by
  have hlt : i.toNat < l.length := by omega
  exact ⟨l[i.toNat], atZ h0 (List.getElem?_eq_getElem hlt), List.getElem_mem hlt⟩
section
variable {K : PySem.W.Frag} {ro : Ro} {ka k1 k2 k3 : Cells} {te tf : TE} {tl th : TO}
theorem ev_ixT {l : List Nat} {i : Int} {c : Nat} (h : EvD K te ro ka (.val (.str (tx l))) k1) (h2 : EvD K tf ro k1 (.val (.int i)) k2) (hs : l.length ≤ 1000) (hc : atI l i = some c) : EvD K (tOp (rIx K) te tf) ro ka (.val (.str (tx [c]))) k2 := ev_ixS h h2 (by rw [tx_len]; omega) (by rw [tx_cps]; exact hc)
theorem ev_addT {l m : List Nat} (h : EvD K te ro ka (.val (.str (tx l))) k1) (h2 : EvD K tf ro k1 (.val (.str (tx m))) k2) (hz : l.length + m.length ≤ 1000) : EvD K (tOp (rAddU K) te tf) ro ka (.val (.str (tx (l ++ m)))) k2 := (ev_addS h h2 (by rw [tx_len, tx_len]; omega)).to (by rw [tx_app])
theorem ev_slX {lo hi : Option Int} {l : List Nat} (ha : EvD K te ro ka (.val (.str (tx l))) k1) (h1 : EvO K tl ro k1 lo k2) (h2 : EvO K th ro k2 hi k3) (hs : l.length ≤ 1000) : EvD K (tSl (rSlU K) te tl th) ro ka (.val (.str (tx (cutD l lo hi)))) k3 := (ev_slS ha h1 h2 (by rw [tx_len]; omega)).to (by rw [tx_cut])
theorem ev_lenX {l : List Nat} (h : EvD K te ro ka (.val (.str (tx l))) k1) (hs : l.length ≤ 1000) : EvD K (tCB (rLenU K) (tCons te tNil)) ro ka (.val (.int l.length)) k1 := (ev_lenS h (by rw [tx_len]; omega)).to (by rw [tx_len])
end
end DL

/-! DR: expressions that raise, by data (own work). -/
namespace DL
open PySem L2 PySem.W
/-- te ends with an exception of C1, with the fields gs -/
def EvX (K : PySem.W.Frag) (te : TE) (ro : Ro) (ka : Cells) (E : XK) (C1 : Addr) (gs : List (Str × D)) (k2 : Cells) : Prop := ∀ B F0 ta sg H (Q : VK), En K B F0 ro ka ta sg H → (∀ dx H', En K B F0 ro (k2 ++ [(dx, .xd gs)]) ta sg H' → E (.ref C1) (some dx) H') → te sg H Q
section
variable {K : PySem.W.Frag} {B F0 : Hp} {ro : Ro} {ka k1 k2 k3 kr : Cells} {ta : List (V × W)} {sg : L2.St} {H : Hp} {te tf : TE} {tr : TA} {x y : W} {C C1 : Addr} {fs gs : List (Str × D)} {b : Bool} {E : XK} {De : Ends}
theorem evx_call {Cc : Ct} {ws : List W} {E' : XK} (ha : EvA K tr ro ka ws (k2 ++ kr)) (hC : Cc ws k2 (Xt C1 gs k3)) (hE : E' = E) : EvX K (tCall (spC K Cc) [] E' tr) ro ka E C1 gs (k3 ++ kr) := fun B F0 ta sg H Q e q => by
  subst hE
  refine ha B F0 ta sg H _ e fun vs H1 hl e1 => ?_
  rw [List.append_nil]
  refine sp_exc e1 hl hC (fun _ _ z => z) fun dx H' e3 => q dx H' (e3.perm ?_)
  rw [List.append_assoc, List.append_assoc]
  exact List.Perm.append_left _ List.perm_append_comm
end
end DL
namespace DL
open PySem L2 PySem.W
theorem cut_to' {β : Type} {xs : List β} {i : Int} (h0 : 0 ≤ i) : cutD xs none (some i) = xs.take i.toNat := by
  by_cases h1 : i ≤ xs.length
  · exact cut_to h0 h1
  · unfold cutD HT.sIx
    dsimp only
    rw [if_neg (by omega), List.drop_zero, Nat.sub_zero, Nat.min_eq_right (by omega), List.take_of_length_le (Nat.le_refl _), List.take_of_length_le (by omega)]
theorem stD_take (ss : List Str) (n : Nat) : (stD ss).take n = stD (ss.take n) := by unfold stD; rw [List.map_take]
theorem stD_app (xs ys : List Str) : stD xs ++ stD ys = stD (xs ++ ys) := by unfold stD; rw [List.map_append]
theorem stD_get {ss : List Str} {i : Nat} {s : Str} (h : ss[i]? = some s) : (stD ss)[i]? = some (.str s) := by unfold stD; rw [List.getElem?_map, h]; rfl
end DL
namespace DL
open PySem L2 PySem.W
end DL
namespace DL
open PySem L2 PySem.W
def inD (ns : List Int) : List D := ns.map .int
/-- w is the script -/
def Scr (K : PySem.W.Frag) (w : W) (ns : List Int) : Prop := w = .val (.lst (inD ns)) ∨ ∃ p, w = .val (.adr p) ∧ ∀ H, SqL K H p (ns.map V.int)
theorem law_sp {K : PySem.W.Frag} {Cc : Ct} {H : Hp} {a : Addr} {ns : List Int} (hC : ∀ z, Scr K z ns → Cc [z] [] (Rt (.bl true) [])) (hS : SqL K H a (ns.map V.int)) : spC K Cc [.ref a] H (fun v _ => v = .bl true) fun _ _ _ => False := by
  have rt : ∀ {B F0 : Hp}, RtOk K B F0 (Rt (.bl true) []) (fun v _ => v = .bl true) := fun {B F0} d ka v H' o e => by
    obtain ⟨h, _⟩ := o
    cases h
    exact e.tm_bl List.mem_cons_self
  have rx : ∀ {B F0 : Hp}, RxOk K B F0 (Rt (.bl true) []) (fun _ _ _ => False) := fun {B F0} => ⟨fun C fs ka dx H' o _ => (by cases o.1), fun C ka H' o _ => (by cases o.1)⟩
  have nob : Sub (fun _ => none) H := fun _ _ h => by cases h
  rcases id hS with h | h
  · refine ⟨fun _ => none, gH H, [.val (.lst (inD ns))], [], _, hC _ (.inl rfl), rfl, ⟨gH H, Gr.refl _ _, gH_nz, gH_exz, nob, List.nodup_nil, fun p hp => (by cases hp), rfl, fun i w e => by simp at e, fun p hp => ?_⟩, rt, rx⟩
    have hp2 : p = (V.ref a, W.val (.lst (inD ns))) := by simpa using hp
    subst hp2
    refine ⟨a, ns.map V.int, rfl, .inl ?_, rpl_ints ns⟩
    unfold gH
    rcases h with h | ⟨o, h⟩
    · rw [h]
    · rw [h]
      rfl
  · refine ⟨fun _ => none, fun _ => none, [.val (.adr a)], [], _, hC _ (.inr ⟨a, rfl, fun _ => .inr h⟩), rfl, ⟨fun _ => none, Gr.refl _ _, fun _ _ h => (by cases h), fun _ _ h => (by cases h), nob, List.nodup_nil, fun p hp => (by cases hp), rfl, fun i w e => by simp at e, fun p hp => ?_⟩, rt, rx⟩
    have hp2 : p = (V.ref a, W.val (.adr a)) := by simpa using hp
    subst hp2
    rfl
/-- what the head must tell of a law's def: its contract, kept by every list of numbers -/
def LawIn (l : PySem.W.OpenLaw) (k : Nat) (x : Str) (w : World) (mg : Str → Option Value) (f : Addr) (h : Heap) : Prop :=
  ∃ (K : PySem.W.Frag) (Cc : Ct) (fd : FuncData), K.In h ∧ (∀ z ns, Scr K z ns → Cc [z] [] (Rt (.bl true) [])) ∧ (∀ (s : Shared) (u : Value), BindsTo s fd ⟨[u], []⟩ [(x, u)]) ∧ ∀ base : Heap, FnOk l.prog w K mg base (L2.CX l.prog w) k f fd [x] (spC K Cc)
abbrev LawWalk (l : PySem.W.OpenLaw) (q : Program) (loose : List Str) (XP : (Str → Option Value) → Heap → Prop) (YP : World → Heap → Prop) (d : DefRec) : Prop := PySem.W.WalkO q loose XP YP l.row.toRowW d [] (fun g us => PySem.call g us)
/-- the law's walk, from what the head tells -/
theorem walk_D {l : PySem.W.OpenLaw} {n k : Nat} {q : Program} {loose : List Str} {XP : (Str → Option Value) → Heap → Prop} {YP : World → Heap → Prop} {d : DefRec} {x : Str} (most : l.most = some n) (fits : n ≤ sizeLine)
    (plain : d.params.defaults = []) (room : Room k callerA) (told : ∀ w mg f h, YP w h → h.Ns mainGlobals mg → mg d.name = some (.ref f) → LawIn l k x w mg f h) : LawWalk l q loose XP YP d :=
  Att.attach_call most plain fun w _ _ mg _ f _ _ _ _ arg vs ns G known _ _ _ at_ obj nums short grown => by
    have ⟨K, Cc, fd, inH, keeps, binds, ok⟩ := told w mg f _ known G.T.g at_
    exact law_call inH G.T.g G.T.b G.T.builtins G.T.nolimit grown obj nums (Nat.le_trans short fits) room (fun base _ _ => ok base) binds (fun H _ S => law_sp (fun z hz => keeps z ns hz) S) fun H e s' z => by
      obtain ⟨_, _, _, _, _, _, _, _, _, _, _, _, bad⟩ := z
      exact bad
end DL

/-! DU: tuple * number (own work). -/
namespace DL
open PySem PySem.Spec PyProof.Rows L2
section
open PySem.W
variable {K : PySem.W.Frag} {ro : Ro} {ka k1 k2 : Cells} {te tf : TE}
end
end DL

/-! DV: dicts, sorted texts, data compared by < (own work). -/
namespace DL
open PySem L2 PySem.W

/-! ### tables -/
section
variable {κ α β : Type} [DecidableEq κ]
def getT (kvs : List (κ × α)) (k : κ) : Option α := (kvs.find? fun kv => decide (kv.1 = k)).map (·.2)
def hasT (kvs : List (κ × α)) (k : κ) : Bool := kvs.any fun p => decide (p.1 = k)
def newAt (k : κ) (v : α) (p : κ × α) : κ × α := if p.1 = k then (p.1, v) else p
/-- a key that stands keeps its place, a new one comes last -/
def putT (kvs : List (κ × α)) (k : κ) (v : α) : List (κ × α) := if hasT kvs k = true then kvs.map (newAt k v) else kvs ++ [(k, v)]
def dropT (kvs : List (κ × α)) (k : κ) : List (κ × α) := kvs.filter fun kv => decide (kv.1 ≠ k)
/-- tables of the same keys -/
def PT (R : α → β → Prop) : List (κ × α) → List (κ × β) → Prop
  | [], xs => xs = []
  | (k, d) :: ds, xs => ∃ x ys, xs = (k, x) :: ys ∧ R d x ∧ PT R ds ys
variable {R : α → β → Prop}
theorem PT.any : ∀ {ds : List (κ × α)} {xs : List (κ × β)}, PT R ds xs → ∀ k, hasT xs k = hasT ds k
  | [], xs, h, k => by rw [show xs = [] from h]; rfl
  | (k', d) :: ds, xs, h, k => by
    obtain ⟨x, ys, rfl, _, h2⟩ := h
    unfold hasT
    rw [List.any_cons, List.any_cons]
    exact congrArg (fun z => decide (k' = k) || z) (PT.any h2 k)
theorem PT.map (k : κ) {d : α} {x : β} (r : R d x) : ∀ {ds : List (κ × α)} {xs : List (κ × β)}, PT R ds xs → PT R (ds.map (newAt k d)) (xs.map (newAt k x))
  | [], xs, h => by rw [show xs = [] from h]; rfl
  | (k', d') :: ds, xs, h => by
    obtain ⟨x', ys, rfl, h1, h2⟩ := h
    have rest := PT.map k r h2
    by_cases e : k' = k
    · have e1 : newAt k d (k', d') = (k', d) := if_pos e
      have e2 : newAt k x (k', x') = (k', x) := if_pos e
      rw [List.map_cons, e1, List.map_cons, e2]
      exact ⟨x, _, rfl, r, rest⟩
    · have e1 : newAt k d (k', d') = (k', d') := if_neg e
      have e2 : newAt k x (k', x') = (k', x') := if_neg e
      rw [List.map_cons, e1, List.map_cons, e2]
      exact ⟨x', _, rfl, h1, rest⟩
theorem PT.snoc {k : κ} {d : α} {x : β} (r : R d x) : ∀ {ds : List (κ × α)} {xs : List (κ × β)}, PT R ds xs → PT R (ds ++ [(k, d)]) (xs ++ [(k, x)])
  | [], xs, h => by rw [show xs = [] from h]; exact ⟨x, [], rfl, r, rfl⟩
  | (k', d') :: ds, xs, h => by
    obtain ⟨x', ys, rfl, h1, h2⟩ := h
    exact ⟨x', _, rfl, h1, PT.snoc r h2⟩
theorem PT.put {ds : List (κ × α)} {xs : List (κ × β)} (h : PT R ds xs) (k : κ) {d : α} {x : β} (r : R d x) : PT R (putT ds k d) (putT xs k x) := by
  unfold putT
  rw [h.any k]
  split
  · exact h.map k r
  · exact h.snoc r
theorem PT.drop (k : κ) : ∀ {ds : List (κ × α)} {xs : List (κ × β)}, PT R ds xs → PT R (dropT ds k) (dropT xs k)
  | [], xs, h => by rw [show xs = [] from h]; rfl
  | (k', d') :: ds, xs, h => by
    obtain ⟨x', ys, rfl, h1, h2⟩ := h
    unfold dropT
    rw [List.filter_cons, List.filter_cons]
    by_cases e : k' = k
    · rw [if_neg (by simpa using e), if_neg (by simpa using e)]; exact PT.drop k h2
    · rw [if_pos (by simpa using e), if_pos (by simpa using e)]; exact ⟨x', _, rfl, h1, PT.drop k h2⟩
theorem PT.get (k : κ) : ∀ {ds : List (κ × α)} {xs : List (κ × β)}, PT R ds xs → (getT ds k = none → getT xs k = none) ∧ ∀ d, getT ds k = some d → ∃ x, getT xs k = some x ∧ R d x
  | [], xs, h => by rw [show xs = [] from h]; exact ⟨fun _ => rfl, fun d q => by cases q⟩
  | (k', d') :: ds, xs, h => by
    obtain ⟨x', ys, rfl, h1, h2⟩ := h
    by_cases e : k' = k
    · have e1 : getT ((k', d') :: ds) k = some d' := by simp [getT, List.find?_cons, e]
      have e2 : getT ((k', x') :: ys) k = some x' := by simp [getT, List.find?_cons, e]
      rw [e1, e2]
      refine ⟨fun q => (by cases q), fun d q => ?_⟩
      cases q
      exact ⟨x', rfl, h1⟩
    · have e1 : getT ((k', d') :: ds) k = getT ds k := by simp [getT, List.find?_cons, e]
      have e2 : getT ((k', x') :: ys) k = getT ys k := by simp [getT, List.find?_cons, e]
      rw [e1, e2]
      exact PT.get k h2
theorem PT.len : ∀ {ds : List (κ × α)} {xs : List (κ × β)}, PT R ds xs → xs.length = ds.length
  | [], xs, h => by rw [show xs = [] from h]; rfl
  | (k', d') :: ds, xs, h => by
    obtain ⟨x', ys, rfl, h1, h2⟩ := h
    rw [List.length_cons, List.length_cons, PT.len h2]
theorem PT.at : ∀ {ds : List (κ × α)} {xs : List (κ × β)}, PT R ds xs → ∀ {i : Nat} {p : κ × α}, ds[i]? = some p → ∃ x, xs[i]? = some (p.1, x) ∧ R p.2 x
  | [], xs, h, i, p, e => by simp at e
  | (k', d') :: ds, xs, h, 0, p, e => by
    obtain ⟨x', ys, rfl, h1, h2⟩ := h
    cases e
    exact ⟨x', rfl, h1⟩
  | (k', d') :: ds, xs, h, i + 1, p, e => by
    obtain ⟨x', ys, rfl, h1, h2⟩ := h
    exact PT.at h2 (i := i) (by simpa using e)
theorem putT_len (kvs : List (κ × α)) (k : κ) (v : α) : (putT kvs k v).length ≤ kvs.length + 1 := by
  unfold putT
  split
  · rw [List.length_map]; omega
  · rw [List.length_append, List.length_cons, List.length_nil]; omega
end
theorem rpk_pt {K : PySem.W.Frag} {F : Hp} : ∀ {ds : List (Key × D)} {xs : List (Key × V)}, RpK K F ds xs ↔ PT (Rp K F) ds xs
  | [], xs => Iff.rfl
  | (k, d) :: ds, xs => ⟨fun ⟨x, ys, e, h1, h2⟩ => ⟨x, ys, e, h1, rpk_pt.mp h2⟩, fun ⟨x, ys, e, h1, h2⟩ => ⟨x, ys, e, h1, rpk_pt.mpr h2⟩⟩
/-- a key as data -/
def kD : Key → D
  | .inl i => .int i
  | .inr s => .str s

section
variable {K : PySem.W.Frag} {B F F0 : Hp} {ro : Ro} {ka k1 k2 k3 kr : Cells} {ta : List (V × W)} {sg : L2.St} {H H' : Hp} {te tf tg tk tv : TE} {tr : TA} {tt tu : TT} {w x y z : W} {n m : Nd} {C dx a : Addr} {b : Bool} {P : L2.St → Hp → Prop} {De : Ends} {t u : TS} {E : XK}
theorem En.tm_key (e : En K B F0 ro ka ta sg H) {v : V} {k : Key} (h : (v, W.val (kD k)) ∈ ta) : v = kV k := by
  cases k with
  | inl i => exact e.tm_int h
  | inr s => exact e.tm_str h
/-! ### a dict that is the def's own, locked while it is walked -/
theorem En.cellAt (e : En K B F0 ro ka ta sg H) {j : Nat} (hj : ka[j]? = some (a, n)) : ∃ F, Gr B F0 F ∧ EnF K B F ro ka ta sg H ∧ NdOk K F H a n := let ⟨F, g, q⟩ := e; ⟨F, g, q, (q.ce _ (List.mem_of_getElem? hj)).2.2⟩
theorem rpl_strs {F : Hp} : ∀ {ss : List Str} {vs : List V}, RpL K F (stD ss) vs → vs = ss.map V.str
  | [], vs, h => h
  | s :: ss, vs, h => by
    obtain ⟨x, ys, rfl, h1, h2⟩ := h
    rw [rpl_strs h2, show x = V.str s from h1]
    rfl
/-- the different ones, in the order in which they come -/
def dedS (xs : List Str) : List Str := xs.foldl (fun acc s => if s ∈ acc then acc else acc ++ [s]) []
end
end DL

/-! DW: data of any depth: in, < (own work). -/
namespace DL
open PySem L2 PySem.W PySem.SeqAt
mutual
def pdD : D → PyData
  | .bl b => .bool b | .int i => .int i | .str s => .str s
  | .tup ds => .tuple (pdL ds) | .lst ds => .list (pdL ds)
  | _ => .none
def pdL : List D → List PyData
  | [] => []
  | d :: ds => pdD d :: pdL ds
end
section
variable {X : Cx} {pins : List (Addr × Obj)} {sg : L2.St} {H G : Hp} {s : Shared}
end
/-- values of α as data -/
structure Enc (α : Type) [DecidableEq α] [Datum α] (f : α → D) : Prop where
  pd : ∀ a, pdD (f a) = Datum.toD a
  pl : ∀ a, DL.pl 60 (f a) = true
section
variable {K : PySem.W.Frag} {B F F0 : Hp} {ro : Ro} {ka k1 k2 k3 kr : Cells} {ta : List (V × W)} {sg : L2.St} {H H' : Hp} {te tf tg : TE} {w x y z : W}
variable {α : Type} [DecidableEq α]
end

end DL

/-! DX: a dict comprehension stored in a local name on its own line (own work over the hand layer's dc_core). -/
namespace DL
open PySem PySem.Spec PyProof.Rows L2
section
variable {X : Cx} {i : Nat} {y : Str} {py pos spos : Pos} {kx vx tg iter : Expr} {ifs : List Expr} {scope : Scope} {own : List (Str × Nat)} {wi : TI} {g : TG} {tt : TT} {tk tv : TE}
end
end DL

/-! DY: != of two tuples whose items are equal, some by an own == (own work; the equality of the items is the hand layer's EqG). -/
namespace DL
open PySem L2 PySem.SeqAt
section
variable {prog : Program} {w : World}
end
section
variable {X : Cx} {n : Nat} {D : Eqv}
end
end DL
namespace DL
open PySem L2 PySem.W
section
variable {K : PySem.W.Frag} {B F F0 : Hp} {ro : Ro} {ka k1 k2 : Cells} {ta : List (V × W)} {sg : L2.St} {H H' : Hp} {te tf : TE} {C : Addr} {Cc : Ct}
theorem En.ext (e : En K B F0 ro ka ta sg H) (x : L2.Ext H H') : En K B F0 ro ka ta sg H' := by
  obtain ⟨F, g, q⟩ := e
  refine ⟨F, g, q.nz, q.fz.sub x, fun a o h => x _ _ (q.fr _ _ h), q.nd, fun p hp => ?_, q.ln, q.sl, q.tm⟩
  obtain ⟨h1, h2, h3⟩ := q.ce p hp
  refine ⟨h1, h2, ?_⟩
  obtain ⟨a, n⟩ := p
  cases n with
  | lst ds => obtain ⟨xs, e, r⟩ := h3; exact ⟨xs, x _ _ e, r⟩
  | dic ds => obtain ⟨xs, e, r⟩ := h3; exact ⟨xs, x _ _ e, r⟩
  | dit ds => obtain ⟨xs, e, r⟩ := h3; exact ⟨xs, x _ _ e, r⟩
  | ldic o xs ds => obtain ⟨e, r⟩ := h3; exact ⟨x _ _ e, r⟩
  | ins C ds => obtain ⟨dx, xs, e, r⟩ := h3; exact ⟨dx, xs, x _ _ e, r⟩
  | xd ds => obtain ⟨xs, e, r⟩ := h3; exact ⟨xs, x _ _ e, r⟩
  | din w ds => obtain ⟨xs, e, r⟩ := h3; exact ⟨xs, x _ _ e, r⟩
end
end DL

/-! DZ: evaluation by a relation (own work). -/
namespace DL
open PySem L2 PySem.W
/-- te ends with some value and cells of which P tells -/
def EvR (K : PySem.W.Frag) (te : TE) (ro : Ro) (ka : Cells) (P : W → Cells → Prop) : Prop := ∀ B F0 ta sg H (Q : VK), En K B F0 ro ka ta sg H → (∀ w k v H', P w k → En K B F0 ro k ((v, w) :: ta) sg H' → Q v H') → te sg H Q
def RvR (K : PySem.W.Frag) (r : R2) (ka : Cells) (x y : W) (P : W → Cells → Prop) : Prop := ∀ B F0 ro ta sg H u v (Q : VK), En K B F0 ro ka ta sg H → (u, x) ∈ ta → (v, y) ∈ ta → (∀ w k t H', P w k → En K B F0 ro k ((t, w) :: ta) sg H' → Q t H') → r u v H Q
section
variable {K : PySem.W.Frag} {B F F0 : Hp} {ro : Ro} {ka k1 k2 k3 kr : Cells} {ta : List (V × W)} {sg : L2.St} {H H' : Hp} {te tf tg : TE} {tr : TA} {w x y z : W} {n : Nd} {P P2 : W → Cells → Prop} {De : Ends} {u : TS} {E : XK} {r : R2}
theorem EvD.toR (h : EvD K te ro ka w k1) : EvR K te ro ka (fun w' k => w' = w ∧ k = k1) := fun B F0 ta sg H Q e q => h B F0 ta sg H Q e fun v H' e' => q w k1 v H' ⟨rfl, rfl⟩ e'
theorem En.tmA (e : En K B F0 ro ka ta sg H) (a : Addr) : En K B F0 ro ka ((.ref a, .val (.adr a)) :: ta) sg H := e.push_imm fun _ => rfl
theorem EvN.toR (h : EvN K te ro ka n k1) : EvR K te ro ka (fun w' k => ∃ a, w' = .val (.adr a) ∧ k = k1 ++ [(a, n)]) := fun B F0 ta sg H Q e q => h B F0 ta sg H Q e fun a H' e' => q _ _ _ H' ⟨a, rfl, rfl⟩ (e'.tmA a)
theorem EvR.imp (h : EvR K te ro ka P) (i : ∀ w k, P w k → P2 w k) : EvR K te ro ka P2 := fun B F0 ta sg H Q e q => h B F0 ta sg H Q e fun w k v H' p => q w k v H' (i w k p)
theorem RvD.toR (h : RvD K r ka x y z) : RvR K r ka x y (fun w' k => w' = z ∧ k = ka) := fun B F0 ro ta sg H u v Q e h1 h2 q => h B F0 ro ta sg H u v Q e h1 h2 fun t H' e' => q z ka t H' ⟨rfl, rfl⟩ e'
theorem RvN.toR (h : RvN K r ka x y n) : RvR K r ka x y (fun w' k => ∃ a, w' = .val (.adr a) ∧ k = ka ++ [(a, n)]) := fun B F0 ro ta sg H u v Q e h1 h2 q => h B F0 ro ta sg H u v Q e h1 h2 fun a H' e' => q _ _ _ H' ⟨a, rfl, rfl⟩ (e'.tmA a)
theorem RvR.imp (h : RvR K r ka x y P) (i : ∀ w k, P w k → P2 w k) : RvR K r ka x y P2 := fun B F0 ro ta sg H u v Q e h1 h2 q => h B F0 ro ta sg H u v Q e h1 h2 fun w k t H' p => q w k t H' (i w k p)
/-- a call whose end a word tells -/
theorem evr_call {Cc : Ct} {ws : List W} {out : Oc} (kr : Cells) (ha : EvA K tr ro ka ws (k1 ++ kr)) (hC : Cc ws k1 out) (ho : ∀ o k, out o k → ∃ d, o = .ret d) : EvR K (tCall (spC K Cc) [] E tr) ro ka (fun w k => ∃ d k2, out (.ret d) k2 ∧ w = .val d ∧ k = k2 ++ kr) := fun B F0 ta sg H Q e q =>
  ha B F0 ta sg H _ e fun vs H1 hl e1 => by
    rw [List.append_nil]
    exact sp_rel e1 hl hC ho fun d k2 v H' o e2 => q _ _ v H' ⟨d, k2, o, rfl, rfl⟩ e2
theorem EvR.op (h : EvR K te ro ka P) (h2 : ∀ w k, P w k → ∃ y k2, EvD K tf ro k y k2 ∧ RvR K r k2 w y P2) : EvR K (tOp r te tf) ro ka P2 := fun B F0 ta sg H Q e q =>
  h B F0 ta sg H _ e fun w k v H1 p e1 => by
    obtain ⟨y, k2, hb, hr⟩ := h2 w k p
    exact hb B F0 _ sg H1 _ e1 fun v2 H2 e2 => hr B F0 ro _ sg H2 v v2 Q e2 (List.mem_cons_of_mem _ List.mem_cons_self) List.mem_cons_self fun w3 k3 t H3 p3 e3 => q w3 k3 t H3 p3 (e3.held fun z hz => by
      rcases List.mem_cons.mp hz with rfl | hz
      · exact List.mem_cons_self
      · exact List.mem_cons_of_mem _ (List.mem_cons_of_mem _ (List.mem_cons_of_mem _ hz)))
theorem g_asgR {i : Nat} (h : EvR K te ro ka P) (k : ∀ w k1, P w k1 → Gp K B F0 ta De.nx (ro.set i (some w)) k1) : Gp K B F0 ta (tAsg te (gName i) De) ro ka := fun sg H e => h B F0 ta sg H _ e fun w k1 v H1 p e1 => k w k1 p _ _ (e1.set i)
theorem q_asgR {i : Nat} (h : EvR K te ro ka P) (k : ∀ w k1, P w k1 → Gp K B F0 ta (u De) (ro.set i (some w)) k1) : Gp K B F0 ta (tSeq (tAsg te (gName i)) u De) ro ka := g_asgR (De := { De with nx := u De }) h k

/-! ### methods, min -/
theorem evr_meth {Cc : Ct} {ws : List W} {out : Oc} {C : Addr} {m : Str} {fs : List (Str × D)} {b : Bool} (kr : Cells) (h : EvD K te ro ka w k1) (l : Io k1 w C fs b) (hm : fs.lookup m = none) (ha : EvA K tr ro k1 ws (k2 ++ kr)) (hC : Cc (w :: ws) k2 out) (ho : ∀ o k, out o k → ∃ d, o = .ret d) : EvR K (tMeth C m (spC K Cc) [] E te tr) ro ka (fun w' k => ∃ d k3, out (.ret d) k3 ∧ w' = .val d ∧ k = k3 ++ kr) := fun B F0 ta sg H Q e q =>
  h B F0 ta sg H _ e fun v H1 e1 => by
    obtain ⟨F, g, ef⟩ := id e1
    obtain ⟨a, dx, xs, rfl, ha1, rx⟩ := l.get ef (ef.tm _ List.mem_cons_self)
    refine ⟨a, dx, xs, rfl, ha1, rpf_none rx hm, ha B F0 _ sg H1 _ e1 fun vs H2 hl e2 => ?_⟩
    rw [List.append_nil]
    refine sp_rel (ws := w :: ws) (vs := .ref a :: vs) (kr := kr) (ta := ta) (e2.held fun p hp => ?_) (by rw [List.length_cons, List.length_cons, hl]) hC ho fun d k3 v3 H' o e3 => q _ _ v3 H' ⟨d, k3, o, rfl, rfl⟩ e3
    have hp' : p ∈ (V.ref a, w) :: (vs.zip ws ++ ta) := hp
    rcases List.mem_cons.mp hp' with rfl | hp
    · exact List.mem_append_right _ List.mem_cons_self
    · rcases List.mem_append.mp hp with hp | hp
      · exact List.mem_append_left _ hp
      · exact List.mem_append_right _ (List.mem_cons_of_mem _ hp)
theorem EvR.d (h : EvR K te ro ka P) (hP : ∀ w' k, P w' k → w' = w ∧ k = k1) : EvD K te ro ka w k1 := fun B F0 ta sg H Q e q => h B F0 ta sg H Q e fun w' k v H' p e' => by
  obtain ⟨rfl, rfl⟩ := hP w' k p
  exact q v H' e'
theorem inV_strs (s : Str) : ∀ ss : List Str, inV (.str s) (ss.map V.str) = decide (s ∈ ss)
  | [] => rfl
  | t :: ss => by
    show ((t == s) || inV (.str s) (ss.map V.str)) = _
    rw [inV_strs s ss, Bool.eq_iff_iff, Bool.or_eq_true, decide_eq_true_eq, decide_eq_true_eq, List.mem_cons, beq_iff_eq]
    exact ⟨fun h => h.elim (fun q => .inl q.symm) .inr, fun h => h.elim (fun q => .inl q.symm) .inr⟩
theorem all_flat : ∀ ss : List Str, (ss.map V.str).all flatV = true
  | [] => rfl
  | t :: ss => by
    rw [List.map_cons, List.all_cons, all_flat ss]
    rfl
theorem rv_inL {neg tt b : Bool} {s : Str} {ss : List Str} (l : Lk ka y tt (stD ss) b) : RvD K (rIn K neg) ka (.val (.str s)) y (.val (.bl (if neg then !decide (s ∈ ss) else decide (s ∈ ss)))) := fun B F0 ro ta sg H u v Q e h1 h2 q => by
  obtain ⟨F, g, ef⟩ := id e
  have hu := e.tm_str h1
  subst hu
  obtain ⟨a, xs, rfl, s1, r1⟩ := l.get ef (ef.tm _ h2)
  have ex := rpl_strs r1
  subst ex
  refine ⟨a, ss.map V.str, rfl, s1.sq, rfl, all_flat ss, ?_⟩
  rw [inV_strs]
  exact q _ _ (e.push_imm fun _ => rfl)
theorem ev_inL {tt b : Bool} {s : Str} {ss : List Str} (h : EvD K te ro ka (.val (.str s)) k1) (h2 : EvD K tf ro k1 y k2) (l : Lk k2 y tt (stD ss) b) : EvD K (tOp (rInU K) te tf) ro ka (.val (.bl (decide (s ∈ ss)))) k2 := ev_op h h2 (rvd_r (rv_inL (neg := false) l))
theorem ev_niL {tt b : Bool} {s : Str} {ss : List Str} (h : EvD K te ro ka (.val (.str s)) k1) (h2 : EvD K tf ro k1 y k2) (l : Lk k2 y tt (stD ss) b) : EvD K (tOp (rNiU K) te tf) ro ka (.val (.bl (!decide (s ∈ ss)))) k2 := ev_op h h2 (rvd_r (rv_inL (neg := true) l))
theorem ei_map {α : Type} {ts : List α} {f : α → D} (h : EvD K te ro ka (.val (.lst (ts.map f))) k1) : EvI K (iSeq K te) ro ka (ts.map fun t => W.val (f t)) (fun _ => True) k1 := by
  have := ei_seq h .vl
  have e : (ts.map f).map (part false) = ts.map fun t => W.val (f t) := by rw [List.map_map]; rfl
  rw [e] at this
  exact this
theorem ei_strs {ss : List Str} (h : EvD K te ro ka (.val (.lst (stD ss))) k1) : EvI K (iSeq K te) ro ka (ss.map fun s => W.val (.str s)) (fun _ => True) k1 := by
  have := ei_seq h .vl
  unfold stD at this
  rw [List.map_map] at this
  exact this

/-! ### targets -/
/-- the target g takes a value of w: the slots behind it -/
def AsT (K : PySem.W.Frag) (g : TG) (w : W) (ro ro' : Ro) : Prop := ∀ B F0 ka ta sg H v (Q : L2.St → Hp → Prop), En K B F0 ro ka ta sg H → (v, w) ∈ ta → (∀ sg', En K B F0 ro' ka ta sg' H → Q sg' H) → g v sg H Q
def AsL (K : PySem.W.Frag) (t : TGs) (ws : List W) (ro ro' : Ro) : Prop := ∀ B F0 ka ta sg H vs (Q : L2.St → Hp → Prop), En K B F0 ro ka ta sg H → vs.length = ws.length → (∀ p ∈ vs.zip ws, p ∈ ta) → (∀ sg', En K B F0 ro' ka ta sg' H → Q sg' H) → t vs sg H Q
variable {ro' ro2 : Ro} {g : TG} {t : TGs} {ws : List W}
theorem at_n {i : Nat} : AsT K (gName i) w ro (ro.set i (some w)) := fun B F0 ka ta sg H v Q ⟨F, g, e⟩ h q => q _ ⟨F, g, e.set (e.tm _ h) i⟩
theorem al_nil : AsL K gNil [] ro ro := fun B F0 ka ta sg H vs Q e hl h q => ⟨List.eq_nil_of_length_eq_zero hl, q _ e⟩
theorem al_cons (h1 : AsT K g w ro ro2) (h2 : AsL K t ws ro2 ro') : AsL K (gCons g t) (w :: ws) ro ro' := fun B F0 ka ta sg H vs Q e hl h q => by
  cases vs with
  | nil => cases hl
  | cons v r => exact ⟨v, r, rfl, h1 B F0 ka ta sg H v _ e (h _ List.mem_cons_self) fun sg1 e1 => h2 B F0 ka ta sg1 H r Q e1 (by simpa using hl) (fun p hp => h p (List.mem_cons_of_mem _ hp)) q⟩
theorem at_tup {ds : List D} {m : Nat} (hm : ds.length = m) (h : AsL K t (ds.map W.val) ro ro') : AsT K (gTup K m t) (.val (.tup ds)) ro ro' := fun B F0 ka ta sg H v Q e hv q => by
  obtain ⟨F, gr, ef⟩ := id e
  obtain ⟨a, xs, rfl, s1, r1⟩ := Lk.vt.get ef (ef.tm _ hv)
  refine ⟨a, xs, rfl, s1, by rw [rpl_len r1, hm], h B F0 ka (xs.zip (ds.map W.val) ++ ta) sg H xs Q ?_ (by rw [List.length_map, rpl_len r1]) (fun p hp => List.mem_append_left _ hp) fun sg' e' => q sg' (e'.held fun p hp => List.mem_append_right _ hp)⟩
  refine ⟨F, gr, ⟨ef.nz, ef.fz, ef.fr, ef.nd, ef.ce, ef.ln, ef.sl, fun p hp => ?_⟩⟩
  rcases List.mem_append.mp hp with hp | hp
  · have : ∀ (ds : List D) (xs : List V), RpL K F ds xs → ∀ p ∈ xs.zip (ds.map W.val), WOk K B F p.1 p.2 := by
      intro ds
      induction ds with
      | nil => intro xs h p hp; rw [show xs = [] from h] at hp; simp at hp
      | cons d ds ih =>
        intro xs h p hp
        obtain ⟨x, ys, rfl, h1, h2⟩ := h
        rcases List.mem_cons.mp hp with rfl | hp
        · exact h1
        · exact ih ys h2 p hp
    exact this ds xs r1 p hp
  · exact ef.tm p hp
theorem at_t2 {d1 d2 : D} {i j : Nat} : AsT K (gTup K 2 (gCons (gName i) (gCons (gName j) gNil))) (.val (.tup [d1, d2])) ro ((ro.set i (some (.val d1))).set j (some (.val d2))) := at_tup rfl (al_cons at_n (al_cons at_n al_nil))
theorem g_asgT (h : EvD K te ro ka w k1) (a : AsT K g w ro ro') (k : Gp K B F0 ta De.nx ro' k1) : Gp K B F0 ta (tAsg te g De) ro ka := fun sg H e => h B F0 ta sg H _ e fun v H1 e1 => a B F0 k1 _ sg H1 v _ e1 List.mem_cons_self fun sg' e' => k _ _ e'.pop
theorem q_asgT (h : EvD K te ro ka w k1) (a : AsT K g w ro ro') (k : Gp K B F0 ta (u De) ro' k1) : Gp K B F0 ta (tSeq (tAsg te g) u De) ro ka := g_asgT (De := { De with nx := u De }) h a k
/-- a loop whose target is of any form -/
theorem g_forT {wi : TI} {C : Cells → Prop} {tb : TS} (h : EvI K wi ro ka ws C k1) (Inv : Nat → Ro → Cells → Prop) (h0 : Inv 0 ro k1) (hC : ∀ i ro2 ka2, Inv i ro2 ka2 → C ka2)
    (hs : ∀ i w ro2 ka2 ta', ws[i]? = some w → Inv i ro2 ka2 → ∃ ro3, AsT K g w ro2 ro3 ∧ Gp K B F0 ta' (tb { De with nx := Jp K B F0 ta' (Inv (i + 1)), ct := Jp K B F0 ta' (Inv (i + 1)), bk := De.nx }) ro3 ka2)
    (hd : ∀ ro2 ka2 ta', Inv ws.length ro2 ka2 → (∀ p ∈ ta, p ∈ ta') → Gp K B F0 ta' De.nx ro2 ka2) : Gp K B F0 ta (tFor wi g tb De) ro ka :=
  g_for h Inv h0 hC (fun i w ro2 ka2 hw inv ta' sg H e x ex => by
    obtain ⟨ro3, a, gp⟩ := hs i w ro2 ka2 ta' hw inv
    exact a B F0 ka2 _ sg H x _ ex List.mem_cons_self fun sg' e' => gp _ _ e'.pop) hd
theorem q_forT {wi : TI} {C : Cells → Prop} {tb : TS} (h : EvI K wi ro ka ws C k1) (Inv : Nat → Ro → Cells → Prop) (h0 : Inv 0 ro k1) (hC : ∀ i ro2 ka2, Inv i ro2 ka2 → C ka2)
    (hs : ∀ i w ro2 ka2 ta', ws[i]? = some w → Inv i ro2 ka2 → ∃ ro3, AsT K g w ro2 ro3 ∧ Gp K B F0 ta' (tb { De with nx := Jp K B F0 ta' (Inv (i + 1)), ct := Jp K B F0 ta' (Inv (i + 1)), bk := u De }) ro3 ka2)
    (hd : ∀ ro2 ka2 ta', Inv ws.length ro2 ka2 → (∀ p ∈ ta, p ∈ ta') → Gp K B F0 ta' (u De) ro2 ka2) : Gp K B F0 ta (tSeq (tFor wi g tb) u De) ro ka := g_forT (De := { De with nx := u De }) h Inv h0 hC hs hd
end
end DL

/-! ER: a tuple read backwards (own work). -/
namespace DL
open PySem L2 PySem.W PyProof.Rows

section
variable {prog : Program} {w : World} {A : Around} {E : Value → Shared → Prop} {s : Shared}
end
section
variable {X : Cx} {e : Expr} {te : TE} {n : Nat} {pa pb pc pd : Pos}
end
end DL

/-! EA: dicts read and written, walked while frozen, objects frozen (own work). -/
namespace DL
open PySem L2 PySem.W

/-- w is a dict of ds; b: viewed -/
inductive Dk (ka : Cells) : W → List (Key × D) → Bool → Prop where
  | v {ds : List (Key × D)} : Dk ka (.val (.dic ds)) ds false
  | w {ds : List (Key × D)} : Dk ka (.vw (.dic ds)) ds true
  | ce {a : Addr} {ds : List (Key × D)} (j : Nat) (h : ka[j]? = some (a, .dic ds)) : Dk ka (.val (.adr a)) ds false
  | cl {a : Addr} {o : Obj} {xs : List (Key × V)} {ds : List (Key × D)} (j : Nat) (h : ka[j]? = some (a, .ldic o xs ds)) : Dk ka (.val (.adr a)) ds false
section
variable {K : PySem.W.Frag} {B B' F F' F0 : Hp} {ro ro' : Ro} {ka k1 k2 k3 kr : Cells} {ta : List (V × W)} {sg sg' : L2.St} {H H' : Hp} {te tf tg td ty tk tv : TE} {tr : TA} {tt tu : TT} {w x y z : W} {n m : Nd} {C dx a : Addr} {b : Bool} {P : L2.St → Hp → Prop} {De : Ends} {t u : TS} {E : XK} {ds : List (Key × D)}
theorem Dk.get {v : V} (l : Dk ka w ds b) (e : EnF K B F ro ka ta sg H) (h : WOk K B F v w) : ∃ a xs, v = .ref a ∧ Rd H a (.dK xs) ∧ RpK K (if b then uni B F else F) ds xs := by
  cases l with
  | v =>
    obtain ⟨a, xs, rfl, h1, h2⟩ := h
    exact ⟨a, xs, rfl, e.fz.rd e.nz h1, h2⟩
  | w =>
    obtain ⟨a, xs, rfl, h1, h2⟩ := h
    exact ⟨a, xs, rfl, (uni_exz e.fz e.fr).rd (uni_nz e.nz) h1, h2⟩
  | ce j hj =>
    obtain rfl : v = .ref _ := h
    obtain ⟨_, _, xs, h1, h2⟩ := e.ce _ (List.mem_of_getElem? hj)
    exact ⟨_, xs, rfl, .inl h1, h2⟩
  | cl j hj =>
    obtain rfl : v = .ref _ := h
    obtain ⟨_, _, h1, h2⟩ := e.ce _ (List.mem_of_getElem? hj)
    exact ⟨_, _, rfl, .inr ⟨_, h1⟩, h2⟩
theorem En.dk {v : V} (l : Dk ka w ds b) (e : En K B F0 ro ka ta sg H) (h : (v, w) ∈ ta) : ∃ F a xs, Gr B F0 F ∧ EnF K B F ro ka ta sg H ∧ v = .ref a ∧ Rd H a (.dK xs) ∧ RpK K (if b then uni B F else F) ds xs := by
  obtain ⟨F, g, ef⟩ := e
  obtain ⟨a, xs, h1, h2, h3⟩ := l.get ef (ef.tm _ h)
  exact ⟨F, a, xs, g, ef, h1, h2, h3⟩
theorem getV {xs : List (Key × V)} {k : Key} : valV xs k = getT xs k := rfl
/-- d[text] -/
theorem ev_dget {s : Str} {d : D} (h : EvD K td ro ka w k1) (h2 : EvD K ty ro k1 (.val (.str s)) k2) (l : Dk k2 w ds b) (hd : getT ds (.inr s) = some d) : EvD K (tDGet td ty) ro ka (part b d) k2 := fun B F0 ta sg H Q e q =>
  h B F0 ta sg H _ e fun u H1 e1 => h2 B F0 _ sg H1 _ e1 fun v H2 e2 => by
    have hv := e2.tm_str (v := v) (i := s) List.mem_cons_self
    subst hv
    obtain ⟨F, a, xs, g, ef, rfl, h3, h4⟩ := e2.dk l (List.mem_cons_of_mem _ List.mem_cons_self)
    obtain ⟨x, hx, rx⟩ := ((rpk_pt.mp h4).get (.inr s)).2 d hd
    refine ⟨a, x, rfl, .inl ⟨xs, .inr s, h3, rfl, ?_⟩, q _ _ ⟨F, g, ?_⟩⟩
    · rw [getV, hx]
    · exact (ef.held (ta' := ta) fun p hp => List.mem_cons_of_mem _ (List.mem_cons_of_mem _ hp)).push (wok_part b rx)
theorem ev_dgetV {s : Str} {d : D} (h : EvD K td ro ka w k1) (h2 : EvD K ty ro k1 (.val (.str s)) k2) (l : Dk k2 w ds false) (hd : getT ds (.inr s) = some d) : EvD K (tDGet td ty) ro ka (.val d) k2 := ev_dget h h2 l hd
/-- text in d -/
theorem ev_din {s : Str} (h : EvD K ty ro ka (.val (.str s)) k1) (h2 : EvD K td ro k1 w k2) (l : Dk k2 w ds b) : EvD K (tDIn ty td) ro ka (.val (.bl (getT ds (.inr s)).isSome)) k2 := fun B F0 ta sg H Q e q =>
  h B F0 ta sg H _ e fun u H1 e1 => h2 B F0 _ sg H1 _ e1 fun v H2 e2 => by
    have hv := e2.tm_str (v := u) (i := s) (List.mem_cons_of_mem _ List.mem_cons_self)
    subst hv
    obtain ⟨F, a, xs, g, ef, rfl, h3, h4⟩ := e2.dk l List.mem_cons_self
    have hg := (rpk_pt.mp h4).get (.inr s)
    refine ⟨a, getT xs (.inr s), rfl, .inl ⟨xs, .inr s, h3, rfl, rfl⟩, q _ _ ?_⟩
    have e5 := (e2.held (ta' := ta) fun p hp => List.mem_cons_of_mem _ (List.mem_cons_of_mem _ hp)).push_imm (v := .bl (getT xs (.inr s)).isSome) (w := .val (.bl (getT xs (.inr s)).isSome)) fun _ => rfl
    cases hd : getT ds (.inr s) with
    | none => rw [hg.1 hd] at e5 ⊢; exact e5
    | some d =>
      obtain ⟨x, hx, _⟩ := hg.2 d hd
      rw [hx] at e5 ⊢
      exact e5
theorem ev_dni {s : Str} (h : EvD K ty ro ka (.val (.str s)) k1) (h2 : EvD K td ro k1 w k2) (l : Dk k2 w ds b) : EvD K (tDNotIn ty td) ro ka (.val (.bl (!(getT ds (.inr s)).isSome))) k2 := fun B F0 ta sg H Q e q =>
  h B F0 ta sg H _ e fun u H1 e1 => h2 B F0 _ sg H1 _ e1 fun v H2 e2 => by
    have hv := e2.tm_str (v := u) (i := s) (List.mem_cons_of_mem _ List.mem_cons_self)
    subst hv
    obtain ⟨F, a, xs, g, ef, rfl, h3, h4⟩ := e2.dk l List.mem_cons_self
    have hg := (rpk_pt.mp h4).get (.inr s)
    refine ⟨a, getT xs (.inr s), rfl, .inl ⟨xs, .inr s, h3, rfl, rfl⟩, q _ _ ?_⟩
    have e5 := (e2.held (ta' := ta) fun p hp => List.mem_cons_of_mem _ (List.mem_cons_of_mem _ hp)).push_imm (v := .bl (!(getT xs (.inr s)).isSome)) (w := .val (.bl (!(getT xs (.inr s)).isSome))) fun _ => rfl
    cases hd : getT ds (.inr s) with
    | none => rw [hg.1 hd] at e5 ⊢; exact e5
    | some d =>
      obtain ⟨x, hx, _⟩ := hg.2 d hd
      rw [hx] at e5 ⊢
      exact e5
/-- d[text] = v -/
theorem g_dput {s : Str} {d : D} {j : Nat} (hv : EvD K tv ro ka (.val d) k1) (ho : EvD K td ro k1 (.val (.adr a)) k2) (hi : EvD K ty ro k2 (.val (.str s)) k3) (hj : k3[j]? = some (a, .dic ds)) (hz : ds.length < 100000)
    (k : Gp K B F0 ta De.nx ro (k3.set j (a, .dic (putT ds (.inr s) d)))) : Gp K B F0 ta (sDPut td ty tv De) ro ka := fun sg H e =>
  hv B F0 ta sg H _ e fun v H1 e1 => ho B F0 _ sg H1 _ e1 fun u H2 e2 => hi B F0 _ sg H2 _ e2 fun y H3 e3 => by
    have hy := e3.tm_str (v := y) (i := s) List.mem_cons_self
    have hu := e3.tm_adr (v := u) (a := a) (List.mem_cons_of_mem _ List.mem_cons_self)
    subst hy hu
    obtain ⟨F, g, ef, xs, hx, rx⟩ := e3.cellAt hj
    have hvd := ef.tm (v, .val d) (List.mem_cons_of_mem _ (List.mem_cons_of_mem _ List.mem_cons_self))
    refine ⟨a, _, rfl, .inl ⟨xs, .inr s, hx, rfl, ?_, rfl⟩, k _ _ ⟨F, g, ?_⟩⟩
    · rw [(rpk_pt.mp rx).len]
      exact Nat.lt_of_lt_of_le hz (by decide : 100000 ≤ sizeLine)
    · exact (ef.write (o := .dK (putK xs (.inr s) v)) (n' := .dic (putT ds (.inr s) d)) hj ⟨_, upd_same, rpk_pt.mpr ((rpk_pt.mp rx).put (.inr s) hvd)⟩).held fun p hp => List.mem_cons_of_mem _ (List.mem_cons_of_mem _ (List.mem_cons_of_mem _ hp))
/-- {} -/
theorem evn_dnew : EvN K tDNewK ro ka (.dic []) ka := fun B F0 ta sg H Q e q => fun p hp => by
  obtain ⟨F, g, e⟩ := e
  exact q p _ ⟨F, g, e.cell (o := .dK []) hp (n := .dic []) ⟨[], upd_same, rfl⟩⟩
/-! ### a frozen dict is walked -/
/-- what stands at a path of fields stays the same while things are locked -/
def EvP (K : PySem.W.Frag) (te : TE) (ro : Ro) (w : W) : Prop := ∀ B F ka ta sg H, EnF K B F ro ka ta sg H → ∃ v, WOk K B F v w ∧ ∀ H' (Q : VK), (∀ a u, H a = some u → lk u = false → H' a = some u) → Q v H' → te sg H' Q
theorem evp_var {i : Nat} (h : ro[i]? = some (some w)) : EvP K (tVar i) ro w := fun B F ka ta sg H e => by
  obtain ⟨v, h1, h2⟩ := e.sl i w h
  exact ⟨v, h2, fun H' Q _ q => ⟨v, h1, q⟩⟩
theorem evp_fld {f : Str} {d : D} {fs : List (Str × D)} (h : EvP K te ro (.val (.ins C fs))) (c : Cls K C) (nf : NoAttr K C f) (hd : fs.lookup f = some d) : EvP K (tFld K te f) ro (.val d) := fun B F ka ta sg H e => by
  obtain ⟨v, h1, h2⟩ := h B F ka ta sg H e
  obtain ⟨a, dx, xs, rfl, h3, h4⟩ := h1
  obtain ⟨x, hx, rx⟩ := rpf_lookup h4 hd
  have h5 := rd_ins e.nz e.fz h3
  exact ⟨x, rx, fun H' Q hH q => h2 H' _ hH ⟨a, C, dx, xs, x, rfl, hH a _ h5 rfl, c, nf, hx, q⟩⟩
theorem uni_upd {o : Obj} {u : HO} (hl : lk u = true) (h : F a = some u ∨ B a = some u) : uni (upd B a (.frz o u)) F = uni B F := by
  funext c
  unfold uni
  cases q : F c with
  | some x => rfl
  | none =>
    by_cases hc : c = a
    · subst hc
      rw [upd_same]
      rcases h with h | h
      · rw [h] at q; cases q
      · rw [h]
        simp only [hl, if_true]
        cases u <;> first | rfl | cases hl
    · rw [upd_ne hc]
/-- a frozen thing is locked for a while -/
theorem EnF.lockF {o : Obj} {u : HO} (e : EnF K B F ro ka ta sg H) (hF : F a = some u) (hl : lk u = true) (hH : H a = some u ∨ H a = some (.frz o u)) : EnF K (upd B a (.frz o u)) F ro ka ta sg (upd H a (.frz o u)) := by
  have wk : ∀ {v : V} {w : W}, WOk K B F v w → WOk K (upd B a (.frz o u)) F v w := fun {v w} h => by
    cases w with
    | val d => exact h
    | vw d =>
      show Rp K (uni (upd B a (.frz o u)) F) d v
      rw [uni_upd hl (.inl hF)]
      exact h
  refine ⟨e.nz, fun c x h => ?_, fun c x h => ?_, e.nd, fun p hp => ?_, e.ln, fun i w h => ?_, fun p hp => wk (e.tm p hp)⟩
  · by_cases hc : c = a
    · subst hc
      rw [hF] at h
      cases h
      exact .inr ⟨hl, o, upd_same⟩
    · rcases e.fz c x h with q | ⟨q1, q2, q3⟩
      · exact .inl (by rw [upd_ne hc]; exact q)
      · exact .inr ⟨q1, q2, by rw [upd_ne hc]; exact q3⟩
  · by_cases hc : c = a
    · subst hc; rw [upd_same] at h ⊢; exact h
    · rw [upd_ne hc] at h ⊢; exact e.fr c x h
  · obtain ⟨h1, h2, h3⟩ := e.ce p hp
    have hc : p.1 ≠ a := fun z => by rw [z, hF] at h1; cases h1
    exact ⟨h1, by rw [upd_ne hc]; exact h2, ndok_at (upd_ne hc) h3⟩
  · obtain ⟨v, h1, h2⟩ := e.sl i w h
    exact ⟨v, h1, wk h2⟩
/-- .. and back: B stands as before -/
theorem EnF.unlockF {o : Obj} {u : HO} (e : EnF K (upd B a (.frz o u)) F ro ka ta sg H) (hF : F a = some u) (hl : lk u = true) {x : HO} (hx : x = u ∨ x = .frz o u) (hB : ∀ y, B a = some y → y = x) : EnF K B F ro ka ta sg (upd H a x) := by
  have wk : ∀ {v : V} {w : W}, WOk K (upd B a (.frz o u)) F v w → WOk K B F v w := fun {v w} h => by
    cases w with
    | val d => exact h
    | vw d =>
      have h' : Rp K (uni (upd B a (.frz o u)) F) d v := h
      rw [uni_upd hl (.inl hF)] at h'
      exact h'
  refine ⟨e.nz, fun c y h => ?_, fun c y h => ?_, e.nd, fun p hp => ?_, e.ln, fun i w h => ?_, fun p hp => wk (e.tm p hp)⟩
  · by_cases hc : c = a
    · subst hc
      rw [hF] at h
      cases h
      rcases hx with rfl | rfl
      · exact .inl upd_same
      · exact .inr ⟨hl, o, upd_same⟩
    · rcases e.fz c y h with q | ⟨q1, q2, q3⟩
      · exact .inl (by rw [upd_ne hc]; exact q)
      · exact .inr ⟨q1, q2, by rw [upd_ne hc]; exact q3⟩
  · by_cases hc : c = a
    · subst hc; rw [upd_same, hB y h]
    · rw [upd_ne hc]; exact e.fr c y (by rw [upd_ne hc]; exact h)
  · obtain ⟨h1, h2, h3⟩ := e.ce p hp
    have hc : p.1 ≠ a := fun z => by rw [z, hF] at h1; cases h1
    rw [upd_ne hc] at h2
    exact ⟨h1, h2, ndok_at (upd_ne hc) h3⟩
  · obtain ⟨v, h1, h2⟩ := e.sl i w h
    exact ⟨v, h1, wk h2⟩
end
end DL

/-! EB: loops and comprehensions over frozen dicts (own work). -/
namespace DL
open PySem L2 PySem.W
def tLkE (t : TE) : TE := fun σ H Q => t σ H Q ∨ tLockE t σ H Q
theorem pe_lkE {X : Cx} {e : Expr} {t : TE} (h : PE X e t) : PE X e (tLkE t) := ⟨fun pins s σ H Q I q => q.elim (h.run pins s σ H Q I) ((pe_lock h).run pins s σ H Q I)⟩
/-- what is walked, at one state -/
def EvIat (K : PySem.W.Frag) (B F0 : Hp) (wi : TI) (ro : Ro) (ws : List W) (C : Cells → Prop) (ka' : Cells) (ta : List (V × W)) (sg : L2.St) (H : Hp) : Prop := ∀ (R : It → Hp → Prop),
  (∀ J ta' H', (∀ p ∈ ta, p ∈ ta') → En K B F0 ro ka' ta' sg H' →
    (∀ i w ro2 ka2 ta2 sg2 H2, ws[i]? = some w → C ka2 → (∀ p ∈ ta', p ∈ ta2) → En K B F0 ro2 ka2 ta2 sg2 H2 → J.go i H2 ∧ ∀ x H3, J.yld i H2 x H3 → En K B F0 ro2 ka2 ((x, w) :: ta2) sg2 H3) →
    (∀ i ro2 ka2 ta2 sg2 H2, ws.length ≤ i → C ka2 → (∀ p ∈ ta', p ∈ ta2) → En K B F0 ro2 ka2 ta2 sg2 H2 → J.stop i H2) → R J H') → wi sg H R
section
variable {K : PySem.W.Frag} {B F F0 : Hp} {ro : Ro} {ka k1 k2 k3 kr : Cells} {ta : List (V × W)} {sg : L2.St} {H H' : Hp} {te tf tg tk tv : TE} {tr : TA} {tt tu : TT} {w x y z : W} {n m : Nd} {C dx a : Addr} {b : Bool} {P : L2.St → Hp → Prop} {De : Ends} {t u : TS} {E : XK}
theorem lc_at {wi : TI} {ws : List W} {C : Cells → Prop} {j : Nat} {vs : List Nat} {Q : VK} (e : En K B F0 ro ka ta sg H) (h : EvIat K B F0 wi ro ws C k1 ta sg H) (hj : j ∈ vs) (hn : ws.length ≤ 1000000) (Inv : Nat → List D → Cells → Prop) (h0 : Inv 0 [] k1) (hC : ∀ i acc k, Inv i acc k → C k ∧ ∀ x, C (k ++ [x]))
    (hs : ∀ i w acc k, ws[i]? = some w → Inv i acc k → (∃ k2, EvT K tt ((wipeR ro vs).set j (some w)) k false k2 ∧ Inv (i + 1) acc k2) ∨ ∃ k2 k3 d, EvT K tt ((wipeR ro vs).set j (some w)) k true k2 ∧ EvD K te ((wipeR ro vs).set j (some w)) k2 (.val d) k3 ∧ Inv (i + 1) (acc ++ [d]) k3)
    (q : ∀ n k a H', (∃ acc, n = .lst acc ∧ Inv ws.length acc k) → En K B F0 ro (k ++ [(a, n)]) ta sg H' → Q (.ref a) H') : tLc wi (gName j) tt te vs sg H Q :=
  h _ fun J ta' H1 hta e1 hgo hst => fun Dl hD => by
    -- the word: the list so far is the last cell
    let P : Nat → Hp → Prop := fun i H => ∃ acc k, Inv i acc k ∧ acc.length ≤ i ∧ En K B F0 ro (k ++ [(Dl, .lst acc)]) ta' sg H
    have p0 : P 0 (upd H1 Dl (.lst [])) := by
      obtain ⟨F, g, e1⟩ := e1
      exact ⟨[], k1, h0, Nat.le_refl _, F, g, e1.cell (o := .lst []) hD (n := .lst []) ⟨[], upd_same, rfl⟩⟩
    refine ⟨fun i m H => m = ws.length - i ∧ i ≤ ws.length ∧ P i H, ⟨ws.length, by simp, Nat.zero_le _, p0⟩, ?_⟩
    rintro i m H2 ⟨rfl, hi, acc, k, inv, hlen, e2⟩
    by_cases hlt : i < ws.length
    · have hw := List.getElem?_eq_getElem hlt
      obtain ⟨g1, g2⟩ := hgo i ws[i] ro (k ++ [(Dl, .lst acc)]) ta' sg H2 hw ((hC i acc k inv).2 _) (fun p hp => hp) e2
      refine .inr ⟨g1, P (i + 1), fun H' p => ⟨ws.length - (i + 1), by omega, rfl, hlt, p⟩, fun x H3 y => ?_⟩
      have e3 := g2 x H3 y
      refine ⟨wipe_set sg vs hj x, ?_⟩
      -- within the block
      have e4 : En K B F0 ((wipeR ro vs).set j (some ws[i])) (k ++ [(Dl, .lst acc)]) ta' ((wipe sg vs).set j (some x)) H3 := by
        obtain ⟨F, g, e3⟩ := e3
        exact ⟨F, g, ((wipe_en (vs := vs) e3).set (e3.tm _ List.mem_cons_self) j).held fun p hp => List.mem_cons_of_mem _ hp⟩
      -- and back out of it
      have out : ∀ {k : Cells} {ta2 : List (V × W)} {H : Hp}, (∃ F, Gr B F0 F ∧ EnF K B F ((wipeR ro vs).set j (some ws[i])) k ta2 ((wipe sg vs).set j (some x)) H ∧ ∀ (a : Nat) w, ro[a]? = some (some w) → ∃ v, sg[a]? = some (some v) ∧ WOk K B F v w) → En K B F0 ro k ta2 sg H := fun ⟨F, g, q, hs⟩ => ⟨F, g, q.frame (by obtain ⟨_, _, e0⟩ := e; exact e0.ln) hs⟩
      obtain ⟨F3, gF3, eF3⟩ := e3
      have slots : ∀ {F : Hp}, Gr B F3 F → ∀ (a : Nat) w, ro[a]? = some (some w) → ∃ v, sg[a]? = some (some v) ∧ WOk K B F v w := fun {F} g a w ha => by
        obtain ⟨v, h1, h2⟩ := eF3.sl a w ha
        exact ⟨v, h1, wok_gr eF3.nz g h2⟩
      have e4' : En K B F3 ((wipeR ro vs).set j (some ws[i])) (k ++ [(Dl, .lst acc)]) ta' ((wipe sg vs).set j (some x)) H3 :=
        ⟨F3, Gr.refl _ _, ((wipe_en (vs := vs) eF3).set (eF3.tm _ List.mem_cons_self) j).held fun p hp => List.mem_cons_of_mem _ hp⟩
      rcases hs i ws[i] acc k hw inv with ⟨k2, t1, inv2⟩ | ⟨k2, k3, d, t1, t2, inv2⟩
      · refine t1.fr [(Dl, .lst acc)] B F3 ta' _ H3 _ e4' fun H4 ⟨F4, g4, e5⟩ => ?_
        exact ⟨acc, k2, inv2, Nat.le_succ_of_le hlen, out ⟨F4, gF3.trans g4, e5, slots g4⟩⟩
      · refine t1.fr [(Dl, .lst acc)] B F3 ta' _ H3 _ e4' fun H4 e5 => ?_
        refine t2.fr [(Dl, .lst acc)] B F3 ta' _ H4 _ e5 fun v H5 ⟨F5, g5, e6⟩ => ?_
        have hx : (k3 ++ [(Dl, Nd.lst acc)])[k3.length]? = some (Dl, Nd.lst acc) := by simp
        obtain ⟨xs, h1, h2⟩ := e6.rd_lst hx
        have hv := e6.tm _ List.mem_cons_self
        have e7 := e6.write (o := .lst (xs ++ [v])) (n' := .lst (acc ++ [d])) hx ⟨_, upd_same, rpl_app h2 ⟨v, [], rfl, hv, rfl⟩⟩
        have hset : (k3 ++ [(Dl, Nd.lst acc)]).set k3.length (Dl, Nd.lst (acc ++ [d])) = k3 ++ [(Dl, Nd.lst (acc ++ [d]))] := by
          rw [List.set_append_right _ _ (Nat.le_refl _)]
          simp
        rw [hset] at e7
        refine ⟨xs, h1, by rw [rpl_len h2]; exact Nat.lt_of_le_of_lt (Nat.le_trans hlen (Nat.le_trans hi hn)) (by decide), acc ++ [d], k3, inv2, by rw [List.length_append]; exact Nat.succ_le_succ hlen, ?_⟩
        exact out ⟨F5, gF3.trans g5, e7.held fun p hp => List.mem_cons_of_mem _ hp, slots g5⟩
    · have ei : i = ws.length := by omega
      subst ei
      refine .inl ⟨hst _ ro (k ++ [(Dl, .lst acc)]) ta' sg H2 (Nat.le_refl _) ((hC _ acc k inv).2 _) (fun p hp => hp) e2, ?_⟩
      exact q _ _ Dl H2 ⟨acc, rfl, inv⟩ (e2.held hta)
theorem dc_at {wi : TI} {ws : List W} {C : Cells → Prop} {j : Nat} {vs : List Nat} {Q : VK} (e : En K B F0 ro ka ta sg H) (h : EvIat K B F0 wi ro ws C k1 ta sg H) (hj : j ∈ vs) (hn : ws.length ≤ 1000000) (Inv : Nat → List (Key × D) → Cells → Prop) (h0 : Inv 0 [] k1) (hC : ∀ i acc k, Inv i acc k → C k ∧ ∀ x, C (k ++ [x]))
    (hs : ∀ i w acc k, ws[i]? = some w → Inv i acc k → (∃ k2, EvT K tt ((wipeR ro vs).set j (some w)) k false k2 ∧ Inv (i + 1) acc k2) ∨ ∃ k2 k3 k4 c d, EvT K tt ((wipeR ro vs).set j (some w)) k true k2 ∧ EvD K tk ((wipeR ro vs).set j (some w)) k2 (.val (kD c)) k3 ∧ EvD K tv ((wipeR ro vs).set j (some w)) k3 (.val d) k4 ∧ Inv (i + 1) (putT acc c d) k4)
    (q : ∀ n k a H', (∃ acc, n = .dic acc ∧ Inv ws.length acc k) → En K B F0 ro (k ++ [(a, n)]) ta sg H' → Q (.ref a) H') : tDc wi (gName j) tt tk tv vs sg H Q :=
  h _ fun J ta' H1 hta e1 hgo hst => fun Dl hD => by
    let P : Nat → Hp → Prop := fun i H => ∃ acc k, Inv i acc k ∧ acc.length ≤ i ∧ En K B F0 ro (k ++ [(Dl, .dic acc)]) ta' sg H
    have p0 : P 0 (upd H1 Dl (.dK [])) := by
      obtain ⟨F, g, e1⟩ := e1
      exact ⟨[], k1, h0, Nat.le_refl _, F, g, e1.cell (o := .dK []) hD (n := .dic []) ⟨[], upd_same, rfl⟩⟩
    refine ⟨fun i m H => m = ws.length - i ∧ i ≤ ws.length ∧ P i H, ⟨ws.length, by simp, Nat.zero_le _, p0⟩, ?_⟩
    rintro i m H2 ⟨rfl, hi, acc, k, inv, hlen, e2⟩
    by_cases hlt : i < ws.length
    · have hw := List.getElem?_eq_getElem hlt
      obtain ⟨g1, g2⟩ := hgo i ws[i] ro (k ++ [(Dl, .dic acc)]) ta' sg H2 hw ((hC i acc k inv).2 _) (fun p hp => hp) e2
      refine .inr ⟨g1, P (i + 1), fun H' p => ⟨ws.length - (i + 1), by omega, rfl, hlt, p⟩, fun x H3 y => ?_⟩
      have e3 := g2 x H3 y
      refine ⟨wipe_set sg vs hj x, ?_⟩
      have out : ∀ {k : Cells} {ta2 : List (V × W)} {H : Hp}, (∃ F, Gr B F0 F ∧ EnF K B F ((wipeR ro vs).set j (some ws[i])) k ta2 ((wipe sg vs).set j (some x)) H ∧ ∀ (a : Nat) w, ro[a]? = some (some w) → ∃ v, sg[a]? = some (some v) ∧ WOk K B F v w) → En K B F0 ro k ta2 sg H := fun ⟨F, g, q, hs⟩ => ⟨F, g, q.frame (by obtain ⟨_, _, e0⟩ := e; exact e0.ln) hs⟩
      obtain ⟨F3, gF3, eF3⟩ := e3
      have slots : ∀ {F : Hp}, Gr B F3 F → ∀ (a : Nat) w, ro[a]? = some (some w) → ∃ v, sg[a]? = some (some v) ∧ WOk K B F v w := fun {F} g a w ha => by
        obtain ⟨v, h1, h2⟩ := eF3.sl a w ha
        exact ⟨v, h1, wok_gr eF3.nz g h2⟩
      have e4' : En K B F3 ((wipeR ro vs).set j (some ws[i])) (k ++ [(Dl, .dic acc)]) ta' ((wipe sg vs).set j (some x)) H3 :=
        ⟨F3, Gr.refl _ _, ((wipe_en (vs := vs) eF3).set (eF3.tm _ List.mem_cons_self) j).held fun p hp => List.mem_cons_of_mem _ hp⟩
      rcases hs i ws[i] acc k hw inv with ⟨k2, t1, inv2⟩ | ⟨k2, k3, k4, c, d, t1, t2, t3, inv2⟩
      · refine t1.fr [(Dl, .dic acc)] B F3 ta' _ H3 _ e4' fun H4 ⟨F4, g4, e5⟩ => ?_
        exact ⟨acc, k2, inv2, Nat.le_succ_of_le hlen, out ⟨F4, gF3.trans g4, e5, slots g4⟩⟩
      · refine t1.fr [(Dl, .dic acc)] B F3 ta' _ H3 _ e4' fun H4 e5 => ?_
        refine t2.fr [(Dl, .dic acc)] B F3 ta' _ H4 _ e5 fun u H5 e6 => ?_
        have hu := e6.tm_key (v := u) (k := c) List.mem_cons_self
        refine t3.fr [(Dl, .dic acc)] B F3 _ _ H5 _ e6 fun v H6 ⟨F5, g5, e7⟩ => ?_
        have hx : (k4 ++ [(Dl, Nd.dic acc)])[k4.length]? = some (Dl, Nd.dic acc) := by simp
        obtain ⟨xs, h1, h2⟩ := (e7.ce _ (List.mem_of_getElem? hx)).2.2
        have hv := e7.tm _ List.mem_cons_self
        have e8 := e7.write (o := .dK (putK xs c v)) (n' := .dic (putT acc c d)) hx ⟨_, upd_same, rpk_pt.mpr ((rpk_pt.mp h2).put c hv)⟩
        have hset : (k4 ++ [(Dl, Nd.dic acc)]).set k4.length (Dl, Nd.dic (putT acc c d)) = k4 ++ [(Dl, Nd.dic (putT acc c d))] := by
          rw [List.set_append_right _ _ (Nat.le_refl _)]
          simp
        rw [hset] at e8
        refine ⟨xs, c, hu, h1, by rw [(rpk_pt.mp h2).len]; exact Nat.lt_of_le_of_lt (Nat.le_trans hlen (Nat.le_trans hi hn)) (by decide), putT acc c d, k4, inv2, Nat.le_trans (putT_len _ _ _) (Nat.succ_le_succ hlen), ?_⟩
        exact out ⟨F5, gF3.trans g5, e8.held fun p hp => List.mem_cons_of_mem _ (List.mem_cons_of_mem _ hp), slots g5⟩
    · have ei : i = ws.length := by omega
      subst ei
      refine .inl ⟨hst _ ro (k ++ [(Dl, .dic acc)]) ta' sg H2 (Nat.le_refl _) ((hC _ acc k inv).2 _) (fun p hp => hp) e2, ?_⟩
      exact q _ _ Dl H2 ⟨acc, rfl, inv⟩ (e2.held hta)


theorem keys_of {ds : List (Key × D)} {xs : List (Key × V)} (h : RpK K F ds xs) : xs.map (·.1) = ds.map (·.1) := by
  induction ds generalizing xs with
  | nil => rw [show xs = [] from h]; rfl
  | cons p ds ih =>
    obtain ⟨k, d⟩ := p
    obtain ⟨x, ys, rfl, _, h2⟩ := h
    rw [List.map_cons, List.map_cons, ih h2]
/-- the keys of a locked dict, at one state -/
theorem ei_at {ds : List (Key × D)} {o : Obj} {xs : List (Key × V)} (e : En K B F0 ro ka ta sg H) (hB : B a = some (.frz o (.dK xs))) (hk : xs.map (·.1) = ds.map (·.1)) (hte : ∀ Q : VK, Q (.ref a) H → te sg H Q) :
    EvIat K B F0 (iKeys te) ro (ds.map fun kv => W.val (kD kv.1)) (fun _ => True) ka ta sg H := fun R q => hte _ ⟨a, o, rfl, .inl ⟨xs, (let ⟨_, _, ef⟩ := e; ef.fr _ _ hB), q _ ta H (fun p hp => hp) e (fun i w2 ro2 ka2 ta2 sg2 H2 hw _ _ e2 => by
    have hl : H2 a = some (.frz o (.dK xs)) := let ⟨_, _, ef⟩ := e2; ef.fr _ _ hB
    rw [List.getElem?_map] at hw
    obtain ⟨p, hp, rfl⟩ := Option.map_eq_some_iff.mp hw
    have h1 : (xs.map (·.1))[i]? = some p.1 := by rw [hk, List.getElem?_map, hp]; rfl
    rw [List.getElem?_map] at h1
    obtain ⟨y, hy, hy2⟩ := Option.map_eq_some_iff.mp h1
    refine ⟨⟨hl, (List.getElem?_eq_some_iff.mp hy).1⟩, fun x H3 ⟨e3, k, v, h2, h3⟩ => ?_⟩
    subst e3 h3
    rw [hy] at h2
    cases h2
    obtain ⟨pk, pd⟩ := p
    cases hy2
    exact e2.push_imm fun F => by cases k <;> rfl) fun i ro2 ka2 ta2 sg2 H2 hi _ _ e2 => by
    have hl : H2 a = some (.frz o (.dK xs)) := let ⟨_, _, ef⟩ := e2; ef.fr _ _ hB
    refine ⟨hl, ?_⟩
    have : xs.length = ds.length := by have := congrArg List.length hk; rwa [List.length_map, List.length_map] at this
    rw [this]
    rwa [List.length_map] at hi⟩⟩
theorem Gr.unB {B' F' : Hp} (h : Gr B' F F') (hs : ∀ c, B c ≠ none → B' c ≠ none) : Gr B F F' := ⟨h.sub, fun c h1 h2 => h.off c h1 (hs c h2)⟩
theorem upd_id {o : HO} (h : H a = some o) : upd H a o = H := by
  funext c
  unfold upd
  split
  · rename_i q; rw [q, h]
  · rfl
/-- a frozen dict is locked: what holds then, and the way back -/
theorem En.lockD {ds : List (Key × D)} (e : En K B F0 ro ka ta sg H) (hp : EvP K te ro (.val (.dic ds))) : ∃ (F : Hp) (a : Addr) (xs : List (Key × V)), Gr B F0 F ∧ F a = some (.dK xs) ∧ xs.map (·.1) = ds.map (·.1) ∧
    (H a = some (.dK xs) ∨ ∃ o, H a = some (.frz o (.dK xs))) ∧ (∀ y, B a = some y → H a = some y) ∧
    (∀ o, (∀ o', H a = some (.frz o' (.dK xs)) → o' = o) → En K (upd B a (.frz o (.dK xs))) F ro ka ta sg (upd H a (.frz o (.dK xs))) ∧ ∀ Q : VK, Q (.ref a) (upd H a (.frz o (.dK xs))) → te sg (upd H a (.frz o (.dK xs))) Q) := by
  obtain ⟨F, g, ef⟩ := e
  obtain ⟨v, h1, h2⟩ := hp B F ka ta sg H ef
  obtain ⟨a, xs, rfl, h3, h4⟩ := h1
  have hF : F a = some (.dK xs) := by
    rcases h3 with h3 | ⟨o, h3⟩
    · exact h3
    · have := ef.nz a _ h3; cases this
  have hH : H a = some (.dK xs) ∨ ∃ o, H a = some (.frz o (.dK xs)) := (ef.fz a _ hF).imp id fun z => z.2
  refine ⟨F, a, xs, g, hF, keys_of h4, hH, fun y hy => ef.fr _ _ hy, fun o ho => ?_⟩
  have hH2 : H a = some (.dK xs) ∨ H a = some (.frz o (.dK xs)) := hH.imp id fun ⟨o', z⟩ => by rw [← ho o' z]; exact z
  refine ⟨⟨F, Gr.refl _ _, ef.lockF hF rfl hH2⟩, fun Q q => h2 _ Q (fun c u hc hl => ?_) q⟩
  by_cases e : c = a
  · subst e
    rcases hH2 with z | z
    · rw [z] at hc; cases hc; cases hl
    · rw [z] at hc; cases hc; exact upd_same
  · rw [upd_ne e]; exact hc
theorem En.unlockD {o : Obj} {xs : List (Key × V)} {y : HO} (e : En K (upd B a (.frz o (.dK xs))) F ro ka ta sg H) (g : Gr B F0 F) (hF : F a = some (.dK xs)) (hx : y = .dK xs ∨ y = .frz o (.dK xs)) (hB : ∀ z, B a = some z → z = y) : En K B F0 ro ka ta sg (upd H a y) := by
  obtain ⟨F2, g2, ef⟩ := e
  have g3 : Gr B F F2 := Gr.unB g2 fun c hc => by
    by_cases e : c = a
    · subst e; rw [upd_same]; exact fun z => by cases z
    · rw [upd_ne e]; exact hc
  exact ⟨F2, g.trans g3, ef.unlockF (g2.sub _ _ hF) rfl hx hB⟩
/-- what is made while a frozen dict is locked -/
theorem lkE_of {ds : List (Key × D)} {Q : VK} {t2 : TE} {R : Nd → Cells → Prop} (e : En K B F0 ro ka ta sg H) (hp : EvP K te ro (.val (.dic ds)))
    (h : ∀ (B' F1 H1 : Hp) (Q' : VK), En K B' F1 ro ka ta sg H1 → EvIat K B' F1 (iKeys te) ro (ds.map fun kv => W.val (kD kv.1)) (fun _ => True) ka ta sg H1 →
      (∀ n k a H', R n k → En K B' F1 ro (k ++ [(a, n)]) ta sg H' → Q' (.ref a) H') → t2 sg H1 Q')
    (q : ∀ n k a H', R n k → En K B F0 ro (k ++ [(a, n)]) ta sg H' → Q (.ref a) H') : tLkE t2 sg H Q := by
  obtain ⟨F, a, xs, gr, hF, hk, hH, hBH, lock⟩ := e.lockD hp
  rcases hH with hH | ⟨o, hH⟩
  · refine .inr ⟨a, .dK xs, hH, trivial, fun o => ?_⟩
    obtain ⟨e1, hte⟩ := lock o fun o' z => by rw [hH] at z; cases z
    refine h _ F _ _ e1 (ei_at (ds := ds) e1 upd_same hk hte) fun n k a' H' r e2 => ?_
    exact ⟨let ⟨_, _, ef⟩ := e2; ef.fr _ _ upd_same, q n k a' _ r (e2.unlockD gr hF (.inl rfl) fun z hz => by have := hBH z hz; rw [hH] at this; cases this; rfl)⟩
  · obtain ⟨e1, hte⟩ := lock o fun o' z => by rw [hH] at z; cases z; rfl
    refine .inl ?_
    have := h _ F _ Q e1 (ei_at (ds := ds) e1 upd_same hk hte) fun n k a' H' r e2 => by
      have e3 := e2.unlockD gr hF (.inr rfl) fun z hz => by have := hBH z hz; rw [hH] at this; cases this; rfl
      have at_ : H' a = some (.frz o (.dK xs)) := let ⟨_, _, ef⟩ := e2; ef.fr _ _ upd_same
      rw [upd_id at_] at e3
      exact q n k a' H' r e3
    rwa [upd_id hH] at this
/-- [e for k in d if ..], d frozen -/
theorem evr_lcK {ds : List (Key × D)} {j : Nat} {vs : List Nat} (hp : EvP K tg ro (.val (.dic ds))) (hj : j ∈ vs) (hn : ds.length ≤ 1000000) (Inv : Nat → List D → Cells → Prop) (h0 : Inv 0 [] ka)
    (hs : ∀ (i : Nat) (kv : Key × D) acc k, ds[i]? = some kv → Inv i acc k → (∃ k2, EvT K tt ((wipeR ro vs).set j (some (.val (kD kv.1)))) k false k2 ∧ Inv (i + 1) acc k2) ∨ ∃ k2 k3 d, EvT K tt ((wipeR ro vs).set j (some (.val (kD kv.1)))) k true k2 ∧ EvD K te ((wipeR ro vs).set j (some (.val (kD kv.1)))) k2 (.val d) k3 ∧ Inv (i + 1) (acc ++ [d]) k3)
    : EvNR K (tLkE (tLc (iKeys tg) (gName j) tt te vs)) ro ka (fun n k => ∃ acc, n = .lst acc ∧ Inv ds.length acc k) := fun B F0 ta sg H Q e q =>
  lkE_of (R := fun n k => ∃ acc, n = .lst acc ∧ Inv ds.length acc k) e hp (fun B' F1 H1 Q' e1 it q' => lc_at e1 it hj (by rw [List.length_map]; exact hn) Inv h0 (fun _ _ _ _ => ⟨trivial, fun _ => trivial⟩) (fun i w acc k hw inv => by
    rw [List.getElem?_map] at hw
    obtain ⟨kv, hkv, rfl⟩ := Option.map_eq_some_iff.mp hw
    exact hs i kv acc k hkv inv) fun n k a H' r e2 => q' n k a H' (by rw [List.length_map] at r; exact r) e2) q
/-- {k: v for x in d if ..}, d frozen -/
theorem evr_dcK {ds : List (Key × D)} {j : Nat} {vs : List Nat} (hp : EvP K tg ro (.val (.dic ds))) (hj : j ∈ vs) (hn : ds.length ≤ 1000000) (Inv : Nat → List (Key × D) → Cells → Prop) (h0 : Inv 0 [] ka)
    (hs : ∀ (i : Nat) (kv : Key × D) acc k, ds[i]? = some kv → Inv i acc k → (∃ k2, EvT K tt ((wipeR ro vs).set j (some (.val (kD kv.1)))) k false k2 ∧ Inv (i + 1) acc k2) ∨ ∃ k2 k3 k4 c d, EvT K tt ((wipeR ro vs).set j (some (.val (kD kv.1)))) k true k2 ∧ EvD K tk ((wipeR ro vs).set j (some (.val (kD kv.1)))) k2 (.val (kD c)) k3 ∧ EvD K tv ((wipeR ro vs).set j (some (.val (kD kv.1)))) k3 (.val d) k4 ∧ Inv (i + 1) (putT acc c d) k4)
    : EvNR K (tLkE (tDc (iKeys tg) (gName j) tt tk tv vs)) ro ka (fun n k => ∃ acc, n = .dic acc ∧ Inv ds.length acc k) := fun B F0 ta sg H Q e q =>
  lkE_of (R := fun n k => ∃ acc, n = .dic acc ∧ Inv ds.length acc k) e hp (fun B' F1 H1 Q' e1 it q' => dc_at e1 it hj (by rw [List.length_map]; exact hn) Inv h0 (fun _ _ _ _ => ⟨trivial, fun _ => trivial⟩) (fun i w acc k hw inv => by
    rw [List.getElem?_map] at hw
    obtain ⟨kv, hkv, rfl⟩ := Option.map_eq_some_iff.mp hw
    exact hs i kv acc k hkv inv) fun n k a H' r e2 => q' n k a H' (by rw [List.length_map] at r; exact r) e2) q
end
end DL

/-! EC: defaults, objects with cells in their fields, more of dicts (own work). -/
namespace DL
open PySem L2 PySem.W

/-! ### defaults -/
/-- the def at f keeps C, its defaults written out; dvs: its defaults -/
def FnD (P : Program) (w : World) (K : PySem.W.Frag) (mg : Str → Option Value) (base : Heap) (k : Nat) (f : Addr) (ps : List Str) (dvs : List V) (C : Ct) : Prop :=
  ∃ fd, FnOk P w K mg base (L2.CX P w) k f fd ps (spC K C) ∧ ∃ ds, Vals dvs ds ∧ Binds K fd ps ds
section
variable {P : Program} {w : World} {K : PySem.W.Frag} {mg : Str → Option Value} {base : Heap} {k j : Nat} {f : Addr} {ps : List Str} {dvs : List V} {C : Ct}
noncomputable def FnD.fd (F : FnD P w K mg base k f ps dvs C) : FuncData := Classical.choose F
theorem FnD.ok (F : FnD P w K mg base k f ps dvs C) : FnOk P w K mg base (L2.CX P w) k f F.fd ps (spC K C) := (Classical.choose_spec F).1
noncomputable def FnD.ds (F : FnD P w K mg base k f ps dvs C) : List Value := Classical.choose (Classical.choose_spec F).2
theorem FnD.dv (F : FnD P w K mg base k f ps dvs C) : Vals dvs F.ds := (Classical.choose_spec (Classical.choose_spec F).2).1
theorem FnD.bn (F : FnD P w K mg base k f ps dvs C) : Binds K F.fd ps F.ds := (Classical.choose_spec (Classical.choose_spec F).2).2
theorem FnD.up (F : FnD P w K mg base j f ps dvs C) (h : j ≤ k) : FnD P w K mg base k f ps dvs C := let ⟨fd, a, b⟩ := F; ⟨fd, a.mono h, b⟩
end
/-- what stands for the defaults -/
def DvOk (K : PySem.W.Frag) (dvs : List V) (wd : List W) : Prop := dvs.length = wd.length ∧ ∀ B F p, p ∈ dvs.zip wd → WOk K B F p.1 p.2
theorem dv_nil {K : PySem.W.Frag} : DvOk K [] [] := ⟨rfl, fun _ _ _ h => by cases h⟩
theorem dv_cons {K : PySem.W.Frag} {v : V} {w : W} {dvs : List V} {wd : List W} (h : ∀ B F, WOk K B F v w) (r : DvOk K dvs wd) : DvOk K (v :: dvs) (w :: wd) := ⟨by rw [List.length_cons, List.length_cons, r.1], fun B F p hp => by
  rcases List.mem_cons.mp hp with rfl | hp
  · exact h B F
  · exact r.2 B F p hp⟩
section
variable {K : PySem.W.Frag} {B B' F F' F0 : Hp} {ro ro' : Ro} {ka k1 k2 k3 kr : Cells} {ta : List (V × W)} {sg sg' : L2.St} {H H' : Hp} {te tf tg td ty tk tv : TE} {tr : TA} {tt tu : TT} {w x y z : W} {n m : Nd} {C dx a o d : Addr} {b : Bool} {P : W → Cells → Prop} {De : Ends} {u : TS}
theorem En.more (e : En K B F0 ro ka ta sg H) {dvs : List V} {wd : List W} (h : DvOk K dvs wd) : En K B F0 ro ka (dvs.zip wd ++ ta) sg H := by
  obtain ⟨F, g, e⟩ := e
  refine ⟨F, g, { e with tm := fun p hp => ?_ }⟩
  rcases List.mem_append.mp hp with q | q
  · exact h.2 B F p q
  · exact e.tm p q
/-- C(e, ..), told by a word: __init__ may make more cells -/
theorem evr_make {Cc : Ct} {ws wd : List W} {dvs : List V} {E : XK} (ha : EvA K tr ro ka ws k1) (hd : DvOk K dvs wd)
    (hC : ∀ a, ∃ out, Cc (.val (.adr a) :: (ws ++ wd)) (k1 ++ [(a, .ins C [])]) out ∧ ∀ o k, out o k → o = .ret .non ∧ P (.val (.adr a)) k) : EvR K (tMake C (spC K Cc) dvs E tr) ro ka P := fun B F0 ta sg H Q e q =>
  ha B F0 ta sg H _ e fun vs H1 hl e1 => by
    intro x dx hx hdx hne
    obtain ⟨F, g, e1⟩ := e1
    obtain ⟨e2, g2⟩ := e1.lay (o := .own x) hdx rfl
    have hx2 : upd H1 dx (.own x) x = none := by rw [upd_ne (Ne.symm hne)]; exact hx
    have e3 := e2.cell (o := .ins C dx []) hx2 (n := .ins C []) ⟨dx, [], upd_same, rfl⟩
    obtain ⟨out, hC, ho⟩ := hC x
    have e4 : En K B F0 ro ((k1 ++ [(x, .ins C [])]) ++ []) (dvs.zip wd ++ (vs.zip ws ++ ta)) sg (upd (upd H1 dx (.own x)) x (.ins C dx [])) := by
      rw [List.append_nil]
      exact En.more ⟨_, g.trans g2, e3⟩ hd
    have hlen : (V.ref x :: (vs ++ dvs)).length = (W.val (.adr x) :: (ws ++ wd)).length := by rw [List.length_cons, List.length_cons, List.length_append, List.length_append, hl, hd.1]
    have hz : (V.ref x :: (vs ++ dvs)).zip (W.val (.adr x) :: (ws ++ wd)) = (V.ref x, W.val (.adr x)) :: (vs.zip ws ++ dvs.zip wd) := by rw [List.zip_cons_cons, List.zip_append hl]
    have e5 : En K B F0 ro ((k1 ++ [(x, .ins C [])]) ++ []) ((V.ref x :: (vs ++ dvs)).zip (W.val (.adr x) :: (ws ++ wd)) ++ ta) sg (upd (upd H1 dx (.own x)) x (.ins C dx [])) := by
      rw [hz]
      refine (e4.push_imm (v := .ref x) (w := .val (.adr x)) fun _ => rfl).held fun p hp => ?_
      rcases List.mem_cons.mp hp with rfl | hp
      · exact List.mem_cons_self
      · refine List.mem_cons_of_mem _ ?_
        rcases List.mem_append.mp hp with hp | hp
        · rcases List.mem_append.mp hp with hp | hp
          · exact List.mem_append_right _ (List.mem_append_left _ hp)
          · exact List.mem_append_left _ hp
        · exact List.mem_append_right _ (List.mem_append_right _ hp)
    refine sp_rel (kr := []) e5 hlen hC (fun o k h => ⟨_, (ho o k h).1⟩) fun d k2 v H' o e6 => ?_
    obtain ⟨he, p⟩ := ho _ _ o
    cases he
    rw [List.append_nil] at e6
    exact ⟨e6.tm_non List.mem_cons_self, q _ _ (.ref x) H' p (e6.pop.push_imm fun _ => rfl)⟩
theorem evr_ifT (h : EvT K tt ro ka true k1) (h1 : EvR K te ro k1 P) : EvR K (tIf tt te tf) ro ka P := fun B F0 ta sg H Q e q => h B F0 ta sg H _ e fun H1 e1 => h1 B F0 ta sg H1 Q e1 q
/-- o.f = e, e told by a word -/
theorem g_fldR {f : Str} (hv : EvR K tf ro ka P) (c : Cls K C) (nf : NoAttr K C f)
    (k : ∀ w k1, P w k1 → ∃ d k2 j fs, w = .val d ∧ EvD K te ro k1 (.val (.adr a)) k2 ∧ k2[j]? = some (a, .ins C fs) ∧ fs.length < 900 ∧ Gp K B F0 ta De.nx ro (k2.set j (a, .ins C (putD f d fs)))) : Gp K B F0 ta (sFld K te tf f De) ro ka := fun sg H e =>
  hv B F0 ta sg H _ e fun w k1 v H1 p e1 => by
    obtain ⟨d, k2, j, fs, rfl, ho, hj, hz, hk⟩ := k w k1 p
    refine ho B F0 _ sg H1 _ e1 fun x H2 e2 => ?_
    have hx := e2.tm_adr (v := x) (a := a) List.mem_cons_self
    subst hx
    obtain ⟨F, g, ef⟩ := e2
    obtain ⟨_, _, dx, xs, hH, rx⟩ := ef.ce _ (List.mem_of_getElem? hj)
    have vd := ef.tm (v, .val d) (List.mem_cons_of_mem _ List.mem_cons_self)
    have room : xs.length < 900 := by rw [rpf_len rx]; exact hz
    exact ⟨_, C, dx, xs, rfl, hH, c, nf, Nat.lt_trans room (by decide), hk _ _ ⟨F, g, (ef.write (o := .ins C dx (putF f v xs)) (n' := .ins C (putD f d fs)) hj ⟨dx, _, upd_same, rpf_put vd rx⟩).held fun p hp => List.mem_cons_of_mem _ (List.mem_cons_of_mem _ hp)⟩⟩
theorem q_fldR {f : Str} (hv : EvR K tf ro ka P) (c : Cls K C) (nf : NoAttr K C f)
    (k : ∀ w k1, P w k1 → ∃ d k2 j fs, w = .val d ∧ EvD K te ro k1 (.val (.adr a)) k2 ∧ k2[j]? = some (a, .ins C fs) ∧ fs.length < 900 ∧ Gp K B F0 ta (u De) ro (k2.set j (a, .ins C (putD f d fs)))) : Gp K B F0 ta (tSeq (sFld K te tf f) u De) ro ka := g_fldR (De := { De with nx := u De }) hv c nf k

/-! ### cells in fields, filled in -/
/-- what stands at a field, said otherwise -/
theorem rpf_fill {G : Hp} {x y : D} (h : ∀ u, Rp K G x u → Rp K G y u) {f : Str} : ∀ {fs : List (Str × D)} {r : List (Str × D)} {xs : List (Str × V)}, RpF K G (fs ++ (f, x) :: r) xs → RpF K G (fs ++ (f, y) :: r) xs
  | [], _, _, ⟨v, l, e, p, q⟩ => ⟨v, l, e, h v p, q⟩
  | _ :: _, _, _, ⟨v, l, e, p, q⟩ => ⟨v, l, e, p, rpf_fill h q⟩
/-- a field that holds the cell o, which is frozen by now -/
theorem En.fill {v : D} {f : Str} {j : Nat} {fs r : List (Str × D)} (e : En K B F0 ro ka ta sg H) (ho : (V.ref o, W.val v) ∈ ta) (hj : ka[j]? = some (a, .ins C (fs ++ (f, .adr o) :: r))) : En K B F0 ro (ka.set j (a, .ins C (fs ++ (f, v) :: r))) ta sg H := by
  obtain ⟨F, g, e⟩ := e
  have hv := e.tm _ ho
  refine ⟨F, g, { e with nd := ?_, ce := fun p hp => ?_ }⟩
  · rw [List.map_set]
    have same : (ka.map (·.1)).set j a = ka.map (·.1) := List.ext_getElem? fun i => by
      by_cases hij : j = i
      · subst hij
        rw [List.getElem?_set_self (by rw [List.length_map]; exact (List.getElem?_eq_some_iff.mp hj).1), List.getElem?_map, hj]
        rfl
      · rw [List.getElem?_set_ne hij]
    exact same.symm ▸ e.nd
  · rcases List.mem_or_eq_of_mem_set hp with q | rfl
    · exact e.ce p q
    · obtain ⟨h1, h2, dx, xs, h3, h4⟩ := e.ce _ (List.mem_of_getElem? hj)
      exact ⟨h1, h2, dx, xs, h3, rpf_fill (fun u hu => by rw [show u = .ref o from hu]; exact hv) h4⟩
end

section
variable {K : PySem.W.Frag} {B B' F F' F0 : Hp} {ro ro' : Ro} {ka k1 k2 k3 kr : Cells} {ta : List (V × W)} {sg sg' : L2.St} {H H' : Hp} {te tf tg td ty tk tv : TE} {tr : TA} {tt tu : TT} {w x y z : W} {n m : Nd} {C dx a o d : Addr} {b : Bool} {P : L2.St → Hp → Prop} {De : Ends} {u : TS}
/-- what a slot holds, said otherwise -/
theorem En.reslot {i : Nat} {v : D} (e : En K B F0 ro ka ta sg H) (hi : ro[i]? = some (some (.val (.adr a)))) (hv : (V.ref a, W.val v) ∈ ta) : En K B F0 (ro.set i (some (.val v))) ka ta sg H := by
  obtain ⟨F, g, e⟩ := e
  refine ⟨F, g, { e with ln := by rw [List.length_set]; exact e.ln, sl := fun j w q => ?_ }⟩
  rw [List.getElem?_set] at q
  split at q
  · rename_i hij
    subst hij
    split at q
    · cases q
      obtain ⟨x, h1, h2⟩ := e.sl _ _ hi
      obtain rfl : x = V.ref a := h2
      exact ⟨_, h1, e.tm _ hv⟩
    · cases q
  · exact e.sl j w q
/-- an own dict, frozen -/
theorem Gp.frzK {i : Nat} {ds : List (Key × D)} (hi : ro[i]? = some (some (.val (.adr a)))) (hp : (kr ++ [(a, Nd.dic ds)]).Perm ka) (h : Gp K B F0 ta P (ro.set i (some (.val (.dic ds)))) kr) : Gp K B F0 ta P ro ka := fun sg H e =>
  h sg H ((En.reslot (e.perm hp).freeze_k hi List.mem_cons_self).held fun p q => List.mem_cons_of_mem _ q)
/-- an object whose fields hold an own list and an own dict, frozen as a whole -/
theorem Gp.frzN {i : Nat} {f g : Str} {xs : List D} {ds : List (Key × D)} (hi : ro[i]? = some (some (.val (.adr a)))) (hp : (kr ++ [(a, Nd.ins C [(f, .adr o), (g, .adr d)]), (o, Nd.lst xs), (d, Nd.dic ds)]).Perm ka)
    (h : Gp K B F0 ta P (ro.set i (some (.val (.ins C [(f, .lst xs), (g, .dic ds)])))) kr) : Gp K B F0 ta P ro ka := fun sg H e => by
  have e0 : En K B F0 ro ((kr ++ [(a, Nd.ins C [(f, .adr o), (g, .adr d)]), (o, Nd.lst xs)]) ++ [(d, Nd.dic ds)]) ta sg H := by
    have := e.perm hp
    rwa [List.append_assoc]
  have e1 := e0.freeze_k
  have e2 := e1.fill (v := .dic ds) (f := g) (j := kr.length) (a := a) (C := C) (fs := [(f, .adr o)]) (r := []) List.mem_cons_self (by simp)
  have e3 : En K B F0 ro ((kr ++ [(a, Nd.ins C [(f, .adr o), (g, .dic ds)])]) ++ [(o, Nd.lst xs)]) ((V.ref d, W.val (.dic ds)) :: ta) sg H := by
    rw [List.set_append_right _ _ (Nat.le_refl _), Nat.sub_self] at e2
    rwa [List.append_assoc]
  have e4 := e3.freeze_l
  have e5 := e4.fill (v := .lst xs) (f := f) (j := kr.length) (a := a) (C := C) (fs := []) (r := [(g, .dic ds)]) List.mem_cons_self (by simp)
  rw [List.set_append_right _ _ (Nat.le_refl _), Nat.sub_self] at e5
  have e6 : En K B F0 ro kr _ sg H := En.freeze_i e5
  exact h sg H ((En.reslot e6 hi List.mem_cons_self).held fun p q => List.mem_cons_of_mem _ (List.mem_cons_of_mem _ (List.mem_cons_of_mem _ q)))
/-- a new value, its object with fields frozen as a whole -/
theorem EvR.frzN {f g : Str} {xs : List D} {ds : List (Key × D)} {R : W → Cells → Prop} (h : EvR K te ro ka R) (hR : ∀ w k, R w k → ∃ a o d, w = .val (.adr a) ∧ k = k1 ++ [(a, Nd.ins C [(f, .adr o), (g, .adr d)]), (o, Nd.lst xs), (d, Nd.dic ds)]) : EvD K te ro ka (.val (.ins C [(f, .lst xs), (g, .dic ds)])) k1 := fun B F0 ta sg H Q e q =>
  h B F0 ta sg H Q e fun w k v H' p e1 => by
    obtain ⟨a, o, d, rfl, rfl⟩ := hR w k p
    have hv := e1.tm_adr (v := v) (a := a) List.mem_cons_self
    subst hv
    have e0 : En K B F0 ro ((k1 ++ [(a, Nd.ins C [(f, .adr o), (g, .adr d)]), (o, Nd.lst xs)]) ++ [(d, Nd.dic ds)]) ta sg H' := by
      have := e1.pop
      rwa [List.append_assoc]
    have e2 := e0.freeze_k.fill (v := .dic ds) (f := g) (j := k1.length) (a := a) (C := C) (fs := [(f, .adr o)]) (r := []) List.mem_cons_self (by simp)
    have e3 : En K B F0 ro ((k1 ++ [(a, Nd.ins C [(f, .adr o), (g, .dic ds)])]) ++ [(o, Nd.lst xs)]) ((V.ref d, W.val (.dic ds)) :: ta) sg H' := by
      rw [List.set_append_right _ _ (Nat.le_refl _), Nat.sub_self] at e2
      rwa [List.append_assoc]
    have e5 := e3.freeze_l.fill (v := .lst xs) (f := f) (j := k1.length) (a := a) (C := C) (fs := []) (r := [(g, .dic ds)]) List.mem_cons_self (by simp)
    rw [List.set_append_right _ _ (Nat.le_refl _), Nat.sub_self] at e5
    exact q _ _ ((En.freeze_i e5).held fun p hp => by
      rcases List.mem_cons.mp hp with rfl | hp
      · exact List.mem_cons_self
      · exact List.mem_cons_of_mem _ (List.mem_cons_of_mem _ (List.mem_cons_of_mem _ hp)))

end
end DL
namespace DL
open PySem L2 PySem.W
/-! ### facts -/
theorem t0_ok {K : PySem.W.Frag} {p : Str × Option Str} {i : Nat} (h : fT0 p i K = true) : IsT0 K (He.dflAt p i K) := by
  unfold fT0 at h
  cases hl : K.lookup (He.dflAt p i K) with
  | none => rw [hl] at h; cases h
  | some ob =>
    rw [hl] at h
    obtain ⟨cls, dict, data, sl⟩ := ob
    cases cls with
    | type T =>
      cases data with
      | seq its n =>
        have h' : (decide (T = "tuple") && its.isEmpty) = true := h
        rw [Bool.and_eq_true, decide_eq_true_eq] at h'
        obtain ⟨rfl, h2⟩ := h'
        have : its = #[] := Array.isEmpty_iff.mp h2
        subst this
        exact ⟨_, n, hl, rfl, rfl⟩
      | _ => cases h
    | _ => cases h
theorem wok_t0 {K : PySem.W.Frag} {a : Addr} (h : IsT0 K a) (B F : Hp) : WOk K B F (.ref a) (.val (.tup [])) := by
  obtain ⟨o, n, h1, h2, h3⟩ := h
  exact ⟨a, [], rfl, .inr ⟨o, #[], n, h1, h2, h3, Nat.zero_le _, .nil⟩, rfl⟩
section
variable {P : Program} {w : World} {K : PySem.W.Frag} {mg : Str → Option Value} {base : Heap} {f : Addr} {fd : FuncData} {x qual : Str} {params : Arguments} {body : List Stmt} {scope : Scope} {ps N : List Str} {k j : Nat} {C : Ct} {dvs : List V}
end
end DL
namespace DL
open PySem L2 PySem.W
theorem hu1 {k : Nat} {A : Around} (r : Room k A) : A.units + 1 < cLine := by have := r.units; omega
end DL

namespace DL
open PySem L2 PySem.W
section
variable {K : PySem.W.Frag} {B F F0 : Hp} {ro : Ro} {ka k1 k2 : Cells} {ta : List (V × W)} {sg : L2.St} {H : Hp} {te tf : TE} {w : W} {n : Nd}
/-! ### is None -/
def isNonD : D → Bool
  | .non => true
  | _ => false
theorem isNonD_of {F : Hp} {d : D} {v : V} (h : Rp K F d v) : decide (v = .non) = isNonD d := by
  cases d with
  | non => rw [show v = .non from h]; rfl
  | bl b => rw [show v = .bl b from h]; rfl
  | int i => rw [show v = .int i from h]; rfl
  | str s => rw [show v = .str s from h]; rfl
  | ty n => rw [show v = .ty n from h]; rfl
  | adr a => rw [show v = .ref a from h]; rfl
  | tup ds => obtain ⟨a, _, rfl, _⟩ := h; rfl
  | lst ds => obtain ⟨a, _, rfl, _⟩ := h; rfl
  | dic ds => obtain ⟨a, _, rfl, _⟩ := h; rfl
  | dit ds => obtain ⟨a, _, rfl, _⟩ := h; rfl
  | din w ds => obtain ⟨a, _, rfl, _⟩ := h; rfl
  | ins C fs => obtain ⟨a, _, _, rfl, _⟩ := h; rfl
theorem En.isN {d : D} (e : En K B F0 ro ka ta sg H) {v : V} (h : (v, w) ∈ ta) (hw : w = .val d ∨ w = .vw d) : decide (v = .non) = isNonD d := by
  obtain ⟨F, _, e⟩ := e
  have := e.tm _ h
  rcases hw with rfl | rfl
  · exact isNonD_of (F := F) this
  · exact isNonD_of (F := uni B F) this
theorem ev_isN {d : D} (h : EvD K te ro ka w k1) (hw : w = .val d ∨ w = .vw d := by exact .inl rfl) : EvD K (tOp rIsN te (tC .non)) ro ka (.val (.bl (isNonD d))) k1 := fun B F0 ta sg H Q e q => h B F0 ta sg H _ e fun v H1 e1 =>
  ⟨rfl, by rw [e1.isN List.mem_cons_self hw]; exact q _ _ (e1.pop.push_imm fun _ => rfl)⟩
theorem ev_notN {d : D} (h : EvD K te ro ka w k1) (hw : w = .val d ∨ w = .vw d := by exact .inl rfl) : EvD K (tOp rNotN te (tC .non)) ro ka (.val (.bl (!isNonD d))) k1 := fun B F0 ta sg H Q e q => h B F0 ta sg H _ e fun v H1 e1 =>
  ⟨rfl, by rw [e1.isN List.mem_cons_self hw]; exact q _ _ (e1.pop.push_imm fun _ => rfl)⟩
theorem EvNR.toR {R : Nd → Cells → Prop} (h : EvNR K te ro ka R) : EvR K te ro ka (fun w k => ∃ a n k0, w = .val (.adr a) ∧ R n k0 ∧ k = k0 ++ [(a, n)]) := fun B F0 ta sg H Q e q =>
  h B F0 ta sg H Q e fun n k a H' r e1 => q _ _ (.ref a) H' ⟨a, n, k, rfl, r, rfl⟩ (e1.push_imm fun _ => rfl)
end
end DL

namespace DL
open PySem L2 PySem.W
theorem sqf_stD (b : Bool) (ss : List Str) : SqF b (stD ss) := .inr (List.all_eq_true.mpr fun d hd => by
  obtain ⟨s, _, rfl⟩ := List.mem_map.mp hd
  rfl)
end DL
namespace DL
open PySem L2 PySem.W
section
variable {K : PySem.W.Frag} {ro : Ro} {ka k1 k2 k3 : Cells} {te : TE} {tr : TA} {w : W} {E : XK}
/-- a method, its end told -/
theorem ev_methA {Cc : Ct} {ws : List W} {C : Addr} {m : Str} {fs : List (Str × D)} {b : Bool} {d : D} (kr : Cells) (h : EvD K te ro ka w k1) (l : Io k1 w C fs b) (hm : fs.lookup m = none) (ha : EvA K tr ro k1 ws (k2 ++ kr)) (hC : Cc (w :: ws) k2 (Rt d k3)) : EvD K (tMeth C m (spC K Cc) [] E te tr) ro ka (.val d) (k3 ++ kr) :=
  (evr_meth kr h l hm ha hC fun o k ho => ⟨d, ho.1⟩).d fun w' k ⟨d', k4, ho, e1, e2⟩ => by
    obtain ⟨h1, h2⟩ := ho
    cases h1
    exact ⟨e1, by rw [e2, h2]⟩
theorem at_t3 {d1 d2 d3 : D} {i j k : Nat} : AsT K (gTup K 3 (gCons (gName i) (gCons (gName j) (gCons (gName k) gNil)))) (.val (.tup [d1, d2, d3])) ro (((ro.set i (some (.val d1))).set j (some (.val d2))).set k (some (.val d3))) := at_tup rfl (al_cons at_n (al_cons at_n (al_cons at_n al_nil)))
end
end DL
namespace DL
open PySem L2 PySem.W
/-! ### tables with text keys -/
section
variable {β : Type} {f : β → D}
abbrev keysT (xs : List (Str × β)) : List Str := xs.map (·.1)
theorem keys_app (xs ys : List (Str × β)) : keysT (xs ++ ys) = keysT xs ++ keysT ys := List.map_append
theorem key_has {xs : List (Str × β)} {s : Str} (h : s ∈ keysT xs) : ∃ v, (s, v) ∈ xs := by
  obtain ⟨p, hp, rfl⟩ := List.mem_map.mp h
  exact ⟨p.2, hp⟩
end
end DL
namespace DL
open PySem L2 PySem.W
section
variable {K : PySem.W.Frag} {ro : Ro} {ka k1 : Cells} {te tf : TE} {P : W → Cells → Prop} {R : Nd → Cells → Prop}
/-- [e, f], f told by a word -/
theorem evnr_l2 {d1 : D} (h1 : EvD K te ro ka (.val d1) k1) (h2 : EvR K tf ro k1 P) (hP : ∀ w k, P w k → ∃ d2, w = .val d2 ∧ R (.lst [d1, d2]) k) : EvNR K (tLst (tCons te (tCons tf tNil))) ro ka R := fun B F0 ta sg H Q e q =>
  h1 B F0 ta sg H _ e fun u H1 e1 => h2 B F0 _ sg H1 _ e1 fun w k v H2 p e2 => by
    obtain ⟨d2, rfl, r⟩ := hP w k p
    refine ⟨(by decide : 2 ≤ sizeLine), fun c hc => q _ k c _ r ?_⟩
    obtain ⟨F, g, ef⟩ := e2
    have hu := ef.tm (u, .val d1) (List.mem_cons_of_mem _ List.mem_cons_self)
    have hv := ef.tm (v, .val d2) List.mem_cons_self
    exact ⟨F, g, (ef.cell (o := .lst [u, v]) hc (n := .lst [d1, d2]) ⟨_, upd_same, u, [v], rfl, hu, v, [], rfl, hv, rfl⟩).held fun z hz => List.mem_cons_of_mem _ (List.mem_cons_of_mem _ hz)⟩
end
end DL
namespace DL
open PySem L2 PySem.W
section
variable {K : PySem.W.Frag} {B F0 : Hp} {ro : Ro} {ka k1 : Cells} {ta : List (V × W)} {te : TE} {w : W} {b : Bool} {R : Nd → Cells → Prop} {De : Ends} {u : TS}
/-- the texts of a list or tuple -/
theorem ei_strsL {t b : Bool} {ss : List Str} (h : EvD K te ro ka w k1) (l : Lk k1 w t (stD ss) b) : EvI K (iSeq K te) ro ka (ss.map fun s => W.val (.str s)) (Stay w (stD ss)) k1 := by
  have e : (stD ss).map (part b) = ss.map fun s => W.val (.str s) := by
    unfold stD
    rw [List.map_map]
    exact List.map_congr_left fun s _ => by cases b <;> rfl
  have := ei_seq h l
  rwa [e] at this
theorem EvNR.lstD {ds : List D} (h : EvNR K te ro ka R) (hR : ∀ n k, R n k → n = .lst ds ∧ k = k1) : EvD K te ro ka (.val (.lst ds)) k1 := fun B F0 ta sg H Q e q => h B F0 ta sg H Q e fun n k a H1 r e1 => by
  obtain ⟨rfl, rfl⟩ := hR n k r
  exact q _ _ e1.freeze_l
end
end DL
namespace DL
open PySem L2 PySem.W
section
variable {K : PySem.W.Frag} {ro : Ro} {ka k1 k2 : Cells} {ty td : TE} {P : W → Cells → Prop}
end
end DL
namespace DL
open PySem L2 PySem.W
section
variable {K : PySem.W.Frag} {ro : Ro} {ka k1 : Cells} {te tf : TE} {n : Nd} {y : W} {E : XK}
end
end DL

/-! ED: d.get(k) (own work). -/
namespace DL
open PySem L2 PySem.W
section
variable {K : PySem.W.Frag} {ro : Ro} {ka k1 k2 : Cells} {td ty : TE} {w : W} {b : Bool}
end
end DL

/-! EE: try with any number of except clauses, each with or without a name (own work). -/
namespace DL
open PySem L2 PySem.W PyProof.Rows

/-- the exception at a has come down in X; but for it the state is as σ, H tell -/
def Down (X : Cx) (pins : List (Addr × Obj)) (a : Addr) (cls : Value) (d : Option Addr) (σ : L2.St) (H : Hp) (s : Shared) : Prop :=
  ∃ (B : Heap) (s0 : Shared), L2.Inv X pins σ H s0 ∧ (∀ b o, s0.heap.get? b = some o → b ∉ frs X.stack → B.get? b = some o) ∧ s0.heap.UpToSlots s.heap ∧
    HandSPX.FlyingZ B (X.env :: X.outer) a (Zc cls d) s.heap ∧ H a = none ∧ s.os = s0.os ∧ AllBare s.gens
section
variable {X : Cx} {pins : List (Addr × Obj)} {a : Addr} {cls : Value} {d : Option Addr} {σ : L2.St} {H : Hp} {s : Shared}
theorem Down.inv (z : Down X pins a cls d σ H s) : L2.Inv X pins σ H s :=
  let ⟨_, _, I, nb, up, fl, _, os, ag⟩ := z
  I.landed nb fl.1 up os ag
theorem Down.obj (z : Down X pins a cls d σ H s) : ∃ (oe : Obj) (vs : Array Value), s.heap.get? a = some oe ∧ Zc cls d oe ∧ oe.data = .fields vs :=
  let ⟨_, _, _, _, _, fl, _⟩ := z
  let ⟨oe, vs, h1, h2, h3⟩ := fl.there
  ⟨oe, vs, h1, h2, h3⟩
/-- no frame's slots stand there -/
theorem Down.off (z : Down X pins a cls d σ H s) : a ∉ frs (X.env :: X.outer) := fun hm => by
  obtain ⟨oe, vs, h1, _, h3⟩ := z.obj
  obtain ⟨_, _, _, _, _, fl, _⟩ := z
  obtain ⟨_, o, h4, h5⟩ := fl.2.2.1.mem hm
  rw [h1] at h4
  cases h4
  exact h5 _ h3
/-- the state that an except suite finds -/
theorem Down.within (z : Down X pins a cls d σ H s) (hf : X.env.frame = some X.env.locals) : ∃ oe vs, oe.data = .fields vs ∧ Zc cls d oe ∧ s.heap.get? a = some oe ∧ L2.Inv (X.suite a ((a, oe) :: (X.pn ++ pins))) [] σ H s := by
  obtain ⟨oe, vs, h1, h2, h3⟩ := z.obj
  have off := z.off
  have na : H a = none := let ⟨_, _, _, _, _, _, na, _⟩ := z; na
  refine ⟨oe, vs, h3, h2, h1, z.inv.suite h1 h3 na (fun e => off ?_) fun hm => off ?_⟩
  · exact List.mem_filterMap.mpr ⟨X.env, List.mem_cons_self, by rw [hf, e]⟩
  · obtain ⟨e, he, q⟩ := List.mem_filterMap.mp hm
    exact List.mem_filterMap.mpr ⟨e, List.mem_cons_of_mem _ he, q⟩
theorem Down.again {M : Model} {A : Around} {E : Value → Shared → Prop} {Q : Unit → Shared → Prop} (z : Down X pins a cls d σ H s) (k : ∀ s', Down X pins a cls d σ H s' → Q () s') : wpAny M A (setFlight (.ref a) none) Q E s := by
  obtain ⟨B, s0, I, nb, up, fl, na, os, ag⟩ := z
  exact HandSPX.lands_againZ fl fun h' fl' up' => k _ ⟨B, s0, I, nb, up.trans up', fl', na, os, ag⟩
/-- no clause takes it -/
theorem Down.pass {W : WX} {Q : Flow → Shared → Prop} (z : Down X pins a cls d σ H s) (hs : X.stack = X.env :: X.outer) (hf : X.env.frame = some X.env.locals) (tk : Takes X W) (w : W cls d σ H) : wpAny (model X.prog X.w) X.A (handleBy (.ref a) X.env []) Q X.xe s := by
  obtain ⟨B, s0, I, nb, up, fl, na, os, ag⟩ := z
  obtain ⟨oe, vs, T, oT, ts, h1, h2, h3, h4, _⟩ := id fl.2.2.2
  have out : wpAny (model X.prog X.w) X.A (setFlight (.ref a) X.env.frame) (fun _ s4 => wpAny (model X.prog X.w) X.A (throw (.ref a) : Sem Flow) Q X.xe s4) X.xe s := by
    rw [hf]
    exact HandSPX.setFlight_upZ fl fun h' held up' => wpAny_throw (tk _ _ ⟨a, B, s0, pins, σ, H, cls, d, rfl, I, nb, up.trans up', .inr (.inr (hs ▸ held)), na, os, ag, w⟩)
  apply wpAny_handleBy_nil
  unfold PySem.passOn
  refine wpAny_bind (wpAny_field h1 h3 h4 ?_)
  have ne : ¬ (Value.ref T == Value.none) = true := by simp
  rw [if_neg ne]
  first
    | exact wpAny_bind (wpAny_pure (wpAny_bind out))
    | exact wpAny_bind out
end
/-- a clause: its class, the slot of its name, its suite -/
abbrev Cla := Value × Option Nat × (Addr → Value → Option Addr → TS)
/-- where a suite ends: its name is gone -/
def goneE (D : Ends) : Option Nat → Ends
  | none => D
  | some i => { nx := fun σ H => D.nx (σ.set i none) H, rt := D.rt, bk := fun σ H => D.bk (σ.set i none) H, ct := fun σ H => D.ct (σ.set i none) H }
def nameS (σ : L2.St) (a : Addr) : Option Nat → L2.St
  | none => σ
  | some i => σ.set i (some (.ref a))
/-- what one clause wishes: that its class tells whether it takes the exception; if so its suite's wish, else W -/
def oneCla (K : PySem.W.Frag) (D : Ends) (c : Cla) (W : WX) : WX := fun cls d σ H =>
  (exmOne K cls c.1 = some true ∧ ∀ a, H a = none → c.2.2 a cls d (goneE D c.2.1) (nameS σ a c.2.1) H) ∨ (exmOne K cls c.1 = some false ∧ W cls d σ H)
def wCla (K : PySem.W.Frag) (Wout : WX) (D : Ends) (l : List Cla) : WX := l.foldr (oneCla K D) Wout
/-- these clauses deal with whatever W lets come down -/
def Deals (X : Cx) (D : Ends) (hds : List ExceptHandler) (W : WX) : Prop := ∀ (pins : List (Addr × Obj)) (a : Addr) (cls : Value) (d : Option Addr) (σ : L2.St) (H : Hp) (s : Shared),
  Down X pins a cls d σ H s → W cls d σ H → wpAny (model X.prog X.w) X.A (handleBy (.ref a) X.env hds) (SP X pins D) X.xe s
/-- a suite keeps its wish -/
def SuiteOk (X : Cx) (b0 : Stmt) (suite : List Stmt) (ts : Addr → Value → Option Addr → TS) : Prop :=
  ∀ (a : Addr) (oe : Obj) (cls : Value) (d : Option Addr) (pn : List (Addr × Obj)), Zc cls d oe → (∃ vs, oe.data = .fields vs) → PSs (X.suite a ((a, oe) :: pn)) (b0 :: suite) (ts a cls d)
section
variable {X : Cx} {pins : List (Addr × Obj)} {a : Addr} {cls : Value} {d : Option Addr} {σ : L2.St} {H : Hp} {s : Shared} {D : Ends} {Wout W : WX} {f : Flow}
theorem Deals.nil (hs : X.stack = X.env :: X.outer) (hf : X.env.frame = some X.env.locals) (tk : Takes X Wout) : Deals X D [] Wout := fun _ _ _ _ _ _ _ z w => z.pass hs hf tk w
/-- the end of a suite without a name, seen from outside -/
theorem SP.outward {q0 : List (Addr × Obj)} {X' : Cx} (e : SP X' q0 D f s) (k : ∀ σ1 H1, L2.Inv X' q0 σ1 H1 s → L2.Inv X pins σ1 H1 s) : SP X pins D f s := by
  rcases f with _ | _ | _ | u
  · obtain ⟨σ1, H1, J, y⟩ := e
    exact ⟨σ1, H1, k _ _ J, y⟩
  · obtain ⟨σ1, H1, J, y⟩ := e
    exact ⟨σ1, H1, k _ _ J, y⟩
  · obtain ⟨σ1, H1, J, y⟩ := e
    exact ⟨σ1, H1, k _ _ J, y⟩
  · obtain ⟨v, σ1, H1, J, y⟩ := e
    exact ⟨v, σ1, H1, k _ _ J, y⟩
/-- a clause's class, looked up where the suite will stand -/
theorem Down.class_read (z : Down X pins a cls d σ H s) (hf : X.env.frame = some X.env.locals) {x : Str} {c : Value} {p : Pos} (hc : Names X x c) {Q : Value → Shared → Prop} {E : Value → Shared → Prop} (k : Q c s) :
    wpAny (model X.prog X.w) (X.A.mark (some (.ref a))) (eval (.Name x p) X.env) Q E s := by
  obtain ⟨oe, vs, _, _, _, S⟩ := z.within hf
  obtain ⟨g, nd, m | ⟨m, v, nn⟩⟩ := hc
  · exact ld_glob (X := X.suite a ((a, oe) :: (X.pn ++ pins))) S g m k nd
  · exact ld_blt (X := X.suite a ((a, oe) :: (X.pn ++ pins))) S g m v k nn nd
/-- does the class at c take it? -/
theorem Down.asked (z : Down X pins a cls d σ H s) {c : Value} {b : Bool} (h : exmOne X.K cls c = some b) : PySem.W.Looks (model X.prog X.w) s.heap (excMatches (.ref a) c) b :=
  PySem.W.exm_one z.inv.kIn (fun A Q E s' kp q => by
    obtain ⟨oe, vs, at_, zc, _⟩ := z.obj
    exact wpAny_typeOf_ref (kp _ _ at_) (zc.1.symm ▸ q)) h
theorem Deals.plain (hf : X.env.frame = some X.env.locals) {x : Str} {c : Value} {ts : Addr → Value → Option Addr → TS} {b0 : Stmt} {suite : List Stmt} {p q : Pos} {hds : List ExceptHandler} (hc : Names X x c) (ok : SuiteOk X b0 suite ts) (rest : Deals X D hds W) :
    Deals X D (.ExceptHandler (some (.Name x p)) none (b0 :: suite) q :: hds) (oneCla X.K D (c, none, ts) W) := fun pins a cls d σ H s z w => by
  refine wpAny_handleBy_cons (codeAny_handlers_test (z.class_read hf hc ?_)) (fun e => by cases e)
  rcases w with ⟨hb, w⟩ | ⟨hb, w⟩ <;> refine (z.asked hb).here ?_
  · refine codeAny_handlers_suite (z.again fun s1 z1 => ?_)
    obtain ⟨oe, vs, dat, zc, _, S⟩ := z1.within hf
    have na : H a = none := z.elim fun _ r => r.elim fun _ r => r.2.2.2.2.1
    exact wpAny_mono ((ok a oe cls d (X.pn ++ pins) zc ⟨_, dat⟩).run [] s1 σ H D S (w a na)) (fun g s2 e => SP.outward e fun _ _ J => J.unsuite z.inv.ok) fun _ _ z => z.elim
  · exact rest pins a cls d σ H s z w
theorem Deals.named (hf : X.env.frame = some X.env.locals) (hN : X.N.Nodup) {x n : Str} {c : Value} {i : Nat} {ts : Addr → Value → Option Addr → TS} {b0 : Stmt} {suite : List Stmt} {p q : Pos} {hds : List ExceptHandler} (hc : Names X x c) (hi : X.N[i]? = some n) (hl : X.env.kindOf n = some .local)
    (ok : SuiteOk X b0 suite ts) (rest : Deals X D hds W) : Deals X D (.ExceptHandler (some (.Name x p)) (some n) (b0 :: suite) q :: hds) (oneCla X.K D (c, some i, ts) W) := fun pins a cls d σ H s z w => by
  refine wpAny_handleBy_cons (codeAny_handlers_test (z.class_read hf hc ?_)) (fun e => by cases e)
  rcases w with ⟨hb, w⟩ | ⟨hb, w⟩ <;> refine (z.asked hb).here ?_
  · refine codeAny_handlers_suite_as (z.again fun s1 z1 => ?_)
    obtain ⟨oe, vs, dat, zc, _, S⟩ := z1.within hf
    have na : H a = none := z.elim fun _ r => r.elim fun _ r => r.2.2.2.2.1
    refine store_ok (X := X.suite a ((a, oe) :: (X.pn ++ pins))) (v := .ref a) S hN hi (.inl hl) rfl (fun s2 S2 => ?_) (.inr hl)
    refine wpAny_mono ((ok a oe cls d (X.pn ++ pins) zc ⟨_, dat⟩).run [] s2 _ H (goneE D (some i)) S2 (w a na)) (fun g s3 e => ?_) fun _ _ z => z.elim
    rcases g with _ | _ | _ | u
    · obtain ⟨σ1, H1, J, y⟩ := e
      exact gone_ok (J.unsuite z.inv.ok) hN hi hl fun s4 J4 => ⟨_, H1, J4, y⟩
    · obtain ⟨σ1, H1, J, y⟩ := e
      exact gone_ok (J.unsuite z.inv.ok) hN hi hl fun s4 J4 => ⟨_, H1, J4, y⟩
    · obtain ⟨σ1, H1, J, y⟩ := e
      exact gone_ok (J.unsuite z.inv.ok) hN hi hl fun s4 J4 => ⟨_, H1, J4, y⟩
    · obtain ⟨v, σ1, H1, J, y⟩ := e
      exact gone_ok (J.unsuite z.inv.ok) hN hi hl fun s4 J4 => ⟨v, _, H1, J4, y⟩
  · exact rest pins a cls d σ H s z w
end
section
variable {X : Cx} {body : List Stmt} {h0 : ExceptHandler} {hds : List ExceptHandler} {l : List Cla} {pos : Pos} {tb : WX → TS} {Wout : WX}
/-- try: body, except .., except .. as .. -/
theorem ps_tryC (hs : X.stack = X.env :: X.outer) (hf : X.env.frame = some X.env.locals) (tk : Takes X Wout)
    (hb : ∀ (W : WX) (pn : List (Addr × Obj)) (xe : Value → Shared → Prop), Takes (X.tr pn xe) W → PassesOwn (model X.prog X.w) X.A X.env xe → PSs (X.tr pn xe) body (tb W))
    (hh : ∀ D, Deals X D [] Wout → Deals X D (h0 :: hds) (wCla X.K Wout D l)) : PS X (.Try body (h0 :: hds) [] [] pos) (fun D σ H => tb (wCla X.K Wout D l) D σ H) where
  run pins s σ H D I h := by
    have ok := I.ok
    have hfr : X.A.frames = some (X.env :: X.outer) := ok.frames.trans (congrArg some hs)
    apply wpAny_Try_except
    let xe : Value → Shared → Prop := fun e s1 => wpAny (model X.prog X.w) X.A (noteFrame e X.env) (fun _ s2 => wpAny (model X.prog X.w) X.A (setFlight e none) (fun _ s3 =>
      wpAny (model X.prog X.w) X.A (handleBy e X.env (h0 :: hds)) (SP X pins D) X.xe s3) X.xe s2) X.xe s1
    have catches : Takes (X.tr (X.pn ++ pins) xe) (wCla X.K Wout D l) := by
      rintro _ s' ⟨a, B, s0, pins', σ', H', cls, d, rfl, J, nb, up, sky, na, os, ag, w⟩
      have sky' : Sky B (X.env :: X.outer) a (Zc cls d) X.env.locals s'.heap := hs ▸ sky
      exact Sky.land Zc.steady hfr hf sky' fun h3 fl up3 => hh D (.nil hs hf tk) _ _ _ _ _ _ _ ⟨B, s0, J.ofTry ok, nb, up.trans up3, fl, na, os, ag⟩ w
    refine wpAny_mono ((hb _ (X.pn ++ pins) xe catches PassesOwn.looking).run [] s σ H D (I.toTry _) h) (fun f s1 e => ?_) fun _ _ z => z
    have back := SP.outward (X := X) (pins := pins) e fun _ _ J => J.ofTry ok
    cases f with
    | next => exact wpAny_execs_nil back
    | ret u => exact back
    | brk => exact back
    | cont => exact back
end
end DL

/-! EF: what several clauses do with an exception, by data (own work). -/
namespace DL
open PySem L2 PySem.W
/-- of the clauses l the one with oi, ts takes an exception of C1 -/
inductive Hit (K : PySem.W.Frag) (C1 : Addr) : List Cla → Option Nat → (Addr → Value → Option Addr → TS) → Prop
  | here {c : Value} {oi : Option Nat} {ts : Addr → Value → Option Addr → TS} {r : List Cla} (h : exmOne K (.ref C1) c = some true) : Hit K C1 ((c, oi, ts) :: r) oi ts
  | next {c : Value} {oi oj : Option Nat} {ts us : Addr → Value → Option Addr → TS} {r : List Cla} (h : exmOne K (.ref C1) c = some false) (k : Hit K C1 r oi ts) : Hit K C1 ((c, oj, us) :: r) oi ts
section
variable {K : PySem.W.Frag} {B F0 : Hp} {ro : Ro} {ka k1 k2 k3 kr : Cells} {ta : List (V × W)} {sg : L2.St} {H : Hp} {te tf : TE} {tr : TA} {C C1 : Addr} {gs : List (Str × D)} {E : XK} {De De' : Ends} {dx : Option Addr} {l : List Cla} {oi : Option Nat} {ts : Addr → Value → Option Addr → TS} {Wout : WX} {u : TS}
theorem hit_wish {D : Ends} {σ : L2.St} (hit : Hit K C1 l oi ts) (h : ∀ a, ts a (.ref C1) dx (goneE D oi) (nameS σ a oi) H) : wCla K Wout D l (.ref C1) dx σ H := by
  induction hit with
  | here hx => exact .inl ⟨hx, fun a _ => h a⟩
  | next hx _ ih => exact .inr ⟨hx, ih h⟩
end
end DL

/-! EG: enumerate of lists (own work). -/
namespace DL
open PySem L2 PySem.W
section
variable {K : PySem.W.Frag} {ro : Ro} {ka k1 : Cells} {te : TE} {w : W}
theorem ei_enum {ds : List D} (h : EvD K te ro ka w k1) (l : Lk k1 w false ds false) : EvI K (iEnum K (tCons te tNil)) ro ka ((List.range ds.length).map fun i : Nat => W.val (.tup [.int (i : Int), ds.getD i .non])) (Stay w ds) k1 := fun B F0 ta sg H R e q =>
  h B F0 ta sg H _ e fun v H1 e1 => by
    have again : ∀ (a : Addr) ro2 ka2 ta2 sg2 H2, Stay w ds ka2 → (V.ref a, w) ∈ ta2 → En K B F0 ro2 ka2 ta2 sg2 H2 → ∃ F ys, EnF K B F ro2 ka2 ta2 sg2 H2 ∧ Gr B F0 F ∧ SqL K H2 a ys ∧ RpL K F ds ys := fun a ro2 ka2 ta2 sg2 H2 hs hm e2 => by
      obtain ⟨F, g, ef⟩ := e2
      obtain ⟨b, ys, eb, s2, r2⟩ := (l.mono ka2 hs).get ef (ef.tm _ hm)
      cases eb
      exact ⟨F, ys, ef, g, .inl s2, r2⟩
    obtain ⟨F, g, ef⟩ := id e1
    obtain ⟨a, xs, rfl, s1, r1⟩ := l.get ef (ef.tm _ List.mem_cons_self)
    refine ⟨a, xs, rfl, .inl s1, q _ ((.ref a, w) :: ta) H1 (fun p hp => List.mem_cons_of_mem _ hp) e1 (fun i w2 ro2 ka2 ta2 sg2 H2 hw hs hm e2 => ?_) fun i ro2 ka2 ta2 sg2 H2 hi hs hm e2 => ?_⟩
    · obtain ⟨F2, ys, ef2, g2, s2, r2⟩ := again a ro2 ka2 ta2 sg2 H2 hs (hm _ List.mem_cons_self) e2
      rw [List.getElem?_map] at hw
      obtain ⟨i', hi', rfl⟩ := Option.map_eq_some_iff.mp hw
      obtain ⟨hi1, hi2⟩ := List.getElem?_eq_some_iff.mp hi'
      rw [List.getElem_range] at hi2
      subst hi2
      rw [List.length_range] at hi1
      have hd : ds[i]? = some ds[i] := List.getElem?_eq_getElem hi1
      have hg : ds.getD i .non = ds[i] := by rw [List.getD_eq_getElem?_getD, hd]; rfl
      obtain ⟨y, hy, ry⟩ := rpl_get r2 hd
      refine ⟨⟨ys, y, s2, hy⟩, fun x H3 ⟨T, x', ex, hT, eH, hx⟩ => ?_⟩
      subst ex eH
      have h5 := hx ys s2
      rw [hy] at h5
      cases h5
      obtain ⟨e4, g4⟩ := ef2.lay (o := .tup [.int (i : Nat), y]) hT rfl
      refine ⟨_, g2.trans g4, e4.push ⟨T, _, rfl, .inl (.inl upd_same), ?_⟩⟩
      rw [hg]
      exact ⟨_, _, rfl, rfl, y, [], rfl, Rp.mono g4.sub.exz ef2.nz _ _ ry, rfl⟩
    · obtain ⟨F2, ys, ef2, g2, s2, r2⟩ := again a ro2 ka2 ta2 sg2 H2 hs (hm _ List.mem_cons_self) e2
      rw [List.length_map, List.length_range] at hi
      exact ⟨ys, s2, by rw [rpl_len r2]; exact hi⟩
end
end DL

namespace DL
open PySem L2 PySem.W
end DL

/-! EH: for loops of the hand layer out of the library's Goes: what an iterator hands out, told once, serves every caller (own work). -/
namespace DL
open PySem L2 PySem.W PyProof.Rows
end DL

/-! EI: nothing of its own (kept for the order of the parts). -/

/-! EJ: for i, x in enumerate(t), t a tuple: the library's GoesN over its Draws.tuple, told for the hand layer (own work). -/
namespace DL
open PySem L2 PySem.W PyProof.Rows
/-- what stands at turn i: the count, the iterator; the three lie apart -/
structure EnT (a e it : Addr) (i : Nat) (h : Heap) : Prop where
  en : ∃ old, IsEnum h e it (0 + (i : Int)) old
  itr : h.IsTupleIter it a i
  apart : e ≠ it ∧ a ≠ it ∧ a ≠ e
namespace EnT
variable {a e it : Addr} {i : Nat} {h : Heap}
theorem cells (z : EnT a e it i h) : ∀ b ∈ [e, it], ∃ o, h.get? b = some o ∧ ∀ v, o.data ≠ .cell v := by
  obtain ⟨⟨_, x⟩, ⟨o, y, _, d⟩, _⟩ := z
  simp only [List.forall_mem_cons, List.not_mem_nil, false_imp_iff, implies_true, and_true]
  exact ⟨⟨_, x, fun _ c => nomatch c⟩, o, y, fun _ c => nomatch d.symm.trans c⟩
theorem le (z : EnT a e it i h) {b T : Addr} (hb : b ∈ [e, it]) (hT : h.objs.size ≤ T) : b ≠ T := fun q =>
  let ⟨_, y, _⟩ := z.cells b hb
  Nat.lt_irrefl _ (Nat.lt_of_lt_of_le (q ▸ Heap.lt_size y) hT)
theorem out (z : EnT a e it i h) : e ∉ [it, a] := by
  have := z.apart
  simp only [List.mem_cons, List.not_mem_nil, or_false, not_or]
  exact ⟨this.1, this.2.2.symm⟩
end EnT
end DL

/-! EK: enumerate of lists and tuples alike (own work). -/
namespace DL
open PySem L2 PySem.W
section
variable {K : PySem.W.Frag} {ro : Ro} {ka k1 : Cells} {te : TE} {w : W}
end
end DL
namespace DL
open PySem L2 PySem.W
section
variable {K : PySem.W.Frag} {B F0 : Hp} {ro : Ro} {ka : Cells} {ta : List (V × W)} {De : Ends} {t u : TS}
/-- a statement whose ends meet under a word -/
theorem q_meet (Inv : Ro → Cells → Prop) (h : ∀ nx, (∀ ro2 ka2, Inv ro2 ka2 → Gp K B F0 ta nx ro2 ka2) → Gp K B F0 ta (t { De with nx := nx }) ro ka) (k : ∀ ro2 ka2, Inv ro2 ka2 → Gp K B F0 ta (u De) ro2 ka2) : Gp K B F0 ta (tSeq t u De) ro ka := h _ k
theorem Gp.up {ta' : List (V × W)} {P : L2.St → Hp → Prop} (h : Gp K B F0 ta P ro ka) (s : ∀ p ∈ ta, p ∈ ta') : Gp K B F0 ta' P ro ka := fun sg H e => h sg H (e.held s)
end
/-! ### x not in y, y a text, a list, a tuple or a dict -/
def rDNi : R2 := fun x y H Q => ∃ a o, y = .ref a ∧ DGet H a x o ∧ Q (.bl (!o.isSome)) H
def rNiD (K : PySem.W.Frag) : R2 := fun x y H Q => rNiU K x y H Q ∨ rDNi x y H Q
section
variable {X : Cx}
theorem op_dni (hu : X.A.units + 1 < cLine) : OpR X (compareOp .NotIn) rDNi := fun pins s sg H x y v u Q I rx ry h => by
  obtain ⟨a, o, rfl, g, q⟩ := h
  obtain rfl : u = Value.ref a := ry
  exact d_notIn hu I g rx fun s' I' => ⟨.bl (!o.isSome), H, I', rfl, q⟩
theorem op_niD (hu : X.A.units + 1 < cLine) : OpR X (compareOp .NotIn) (rNiD X.K) := op_niU.or (op_dni hu)
end
/-- w holds the texts ys: a list or tuple of them, or a dict with these keys -/
inductive HasS (ka : Cells) : W → List Str → Prop where
  | sq {w : W} {t b : Bool} {ys : List Str} (l : Lk ka w t (stD ys) b) : HasS ka w ys
  | dc {w : W} {ds : List (Key × D)} {b : Bool} {ys : List Str} (l : Dk ka w ds b) (h : ∀ s, (getT ds (.inr s)).isSome = decide (s ∈ ys)) : HasS ka w ys
section
variable {K : PySem.W.Frag} {ro : Ro} {ka k1 k2 : Cells} {te tf : TE} {y : W}
theorem rv_dni {s : Str} {ds : List (Key × D)} {b : Bool} (l : Dk ka y ds b) : RvD K rDNi ka (.val (.str s)) y (.val (.bl (!(getT ds (.inr s)).isSome))) := fun B F0 ro ta sg H u v Q e h1 h2 q => by
  obtain rfl := e.tm_str h1
  obtain ⟨F, a, xs, g, ef, rfl, h3, h4⟩ := e.dk l h2
  have hg := (rpk_pt.mp h4).get (.inr s)
  refine ⟨a, getT xs (.inr s), rfl, .inl ⟨xs, .inr s, h3, rfl, rfl⟩, q _ _ ?_⟩
  have e5 := e.push_imm (v := .bl (!(getT xs (.inr s)).isSome)) (w := .val (.bl (!(getT xs (.inr s)).isSome))) fun _ => rfl
  cases hd : getT ds (.inr s) with
  | none => rw [hg.1 hd] at e5 ⊢; exact e5
  | some d =>
    obtain ⟨x, hx, _⟩ := hg.2 d hd
    rw [hx] at e5 ⊢
    exact e5
theorem ev_niH {s : Str} {ys : List Str} (h : EvD K te ro ka (.val (.str s)) k1) (h2 : EvD K tf ro k1 y k2) (l : HasS k2 y ys) : EvD K (tOp (rNiD K) te tf) ro ka (.val (.bl (!decide (s ∈ ys)))) k2 := by
  cases l with
  | sq l => exact ev_op h h2 (rvd_l (rvd_r (rv_inL (neg := true) l)))
  | dc l hs => exact (ev_op h h2 (rvd_r (rv_dni l))).to (by rw [hs])
end
end DL

/-! EL: cells frozen for the length of one expression, then cells again (own work). -/
namespace DL
open PySem L2 PySem.W
/-! ### data that reads no cell: numbers, texts, tuples of these -/
mutual
def tI : D → Bool
  | .lst _ => false | .dic _ => false | .dit _ => false | .ins _ _ => false | .din _ _ => false
  | .tup xs => tIL xs
  | _ => true
def tIL : List D → Bool
  | [] => true
  | d :: ds => tI d && tIL ds
end
theorem tIL_all : ∀ {ds : List D}, (∀ d ∈ ds, tI d = true) → tIL ds = true
  | [], _ => rfl
  | d :: ds, h => by
    rw [tIL, h d List.mem_cons_self, tIL_all fun x hx => h x (List.mem_cons_of_mem _ hx)]
    rfl
theorem tIL_stD (ss : List Str) : tIL (stD ss) = true := tIL_all fun d hd => by
  obtain ⟨s, _, rfl⟩ := List.mem_map.mp hd
  rfl
def ndI : Nd → Bool
  | .lst ds => tIL ds
  | .dic ds => ds.all fun p => tI p.2
  | .ins _ fs => fs.all fun p => tI p.2
  | .xd fs => fs.all fun p => tI p.2
  | _ => false
section
variable {K : PySem.W.Frag} {B B' F F' F0 H H' : Hp} {ro ro' : Ro} {ka k1 k2 k3 kr kt : Cells} {ta tb : List (V × W)} {sg sg' : L2.St} {te tf : TE} {tt : TT} {w x y : W} {n : Nd} {a : Addr} {C : Addr}
/-- the heap F with the cells kt of H put in -/
def thF (F H : Hp) (kt : Cells) : Hp := fun a => if a ∈ kt.map (·.1) then H a else F a
theorem thF_in {a : Addr} (h : a ∈ kt.map (·.1)) : thF F H kt a = H a := if_pos h
theorem thF_out {a : Addr} (h : a ∉ kt.map (·.1)) : thF F H kt a = F a := if_neg h
theorem thF_sub (h : ∀ p ∈ kt, F p.1 = none) : Sub F (thF F H kt) := fun a o e => by
  rw [thF_out fun m => ?_]
  · exact e
  · obtain ⟨p, hp, rfl⟩ := List.mem_map.mp m
    rw [h p hp] at e
    cases e
/-- cells of the three kinds -/
def ndK : Nd → Bool
  | .lst _ => true | .dic _ => true | .ins _ _ => true | .din _ _ => true
  | _ => false
theorem ndok_kind {a : Addr} (h : NdOk K F H a n) (k : ndK n = true) : ∃ o, H a = some o ∧ isfz o = false ∧ ∀ xs, o ≠ .tup xs := by
  cases n with
  | lst ds => obtain ⟨xs, e, _⟩ := h; exact ⟨_, e, rfl, fun _ z => nomatch z⟩
  | dic ds => obtain ⟨xs, e, _⟩ := h; exact ⟨_, e, rfl, fun _ z => nomatch z⟩
  | ins C ds => obtain ⟨dx, xs, e, _⟩ := h; exact ⟨_, e, rfl, fun _ z => nomatch z⟩
  | din w ds => obtain ⟨xs, e, _⟩ := h; exact ⟨_, e, rfl, fun _ z => by unfold DnO at z; cases z⟩
  | _ => cases k
/-- what is known of cells that are put in -/
structure Thw (K : PySem.W.Frag) (F H : Hp) (kt : Cells) : Prop where
  no : ∀ p ∈ kt, F p.1 = none
  ok : ∀ p ∈ kt, NdOk K F H p.1 p.2
  kd : ∀ p ∈ kt, ndK p.2 = true
theorem Thw.gr (t : Thw K F H kt) (hB : ∀ p ∈ kt, B p.1 = none) : Gr B F (thF F H kt) := ⟨thF_sub t.no, fun a h1 h2 => by
  rw [thF_out fun m => ?_]
  · exact h1
  · obtain ⟨p, hp, rfl⟩ := List.mem_map.mp m
    exact h2 (hB p hp)⟩
theorem EnF.thw (e : EnF K B F ro (k1 ++ kt) ta sg H) (kd : ∀ p ∈ kt, ndK p.2 = true) : Thw K F H kt := ⟨fun p hp => (e.ce p (List.mem_append_right _ hp)).1, fun p hp => (e.ce p (List.mem_append_right _ hp)).2.2, kd⟩
theorem EnF.thB (e : EnF K B F ro (k1 ++ kt) ta sg H) : ∀ p ∈ kt, B p.1 = none := fun p hp => (e.ce p (List.mem_append_right _ hp)).2.1
theorem EnF.apart (e : EnF K B F ro (k1 ++ kt) ta sg H) {p : Addr × Nd} (hp : p ∈ k1) : p.1 ∉ kt.map (·.1) := fun m => by
  have nd := e.nd
  rw [List.map_append, List.nodup_append] at nd
  exact nd.2.2 p.1 (List.mem_map.mpr ⟨p, hp, rfl⟩) p.1 m rfl
/-- the cells kt go into what is frozen -/
theorem EnF.th_in (e : EnF K B F ro (k1 ++ kt) ta sg H) (kd : ∀ p ∈ kt, ndK p.2 = true) : EnF K (thF B H kt) (thF F H kt) ro k1 ta sg H := by
  have t := e.thw kd
  have hB := e.thB
  have gr := t.gr hB
  have sB : Sub B (thF B H kt) := thF_sub hB
  have nz : Nz (thF F H kt) := fun a u h => by
    by_cases m : a ∈ kt.map (·.1)
    · rw [thF_in m] at h
      obtain ⟨p, hp, rfl⟩ := List.mem_map.mp m
      obtain ⟨o, ho, hz, _⟩ := ndok_kind (t.ok p hp) (kd p hp)
      rw [ho] at h
      cases h
      exact hz
    · rw [thF_out m] at h
      exact e.nz a u h
  refine ⟨nz, fun a u h => ?_, fun a u h => ?_, ?_, fun p hp => ?_, e.ln, fun i w h => ?_, fun p hp => wok_subB nz sB (wok_gr e.nz gr (e.tm p hp))⟩
  · by_cases m : a ∈ kt.map (·.1)
    · rw [thF_in m] at h
      exact .inl h
    · rw [thF_out m] at h
      exact e.fz a u h
  · by_cases m : a ∈ kt.map (·.1)
    · rw [thF_in m] at h
      exact h
    · rw [thF_out m] at h
      exact e.fr a u h
  · have nd := e.nd
    rw [List.map_append, List.nodup_append] at nd
    exact nd.1
  · obtain ⟨c1, c2, c3⟩ := e.ce p (List.mem_append_left _ hp)
    have m := e.apart hp
    exact ⟨by rw [thF_out m]; exact c1, by rw [thF_out m]; exact c2, ndok_gr e.nz gr c3⟩
  · obtain ⟨v, h1, h2⟩ := e.sl i w h
    exact ⟨v, h1, wok_subB nz sB (wok_gr e.nz gr h2)⟩
/-! ### data that reads no cell stays without the cells -/
section
variable (no : ∀ b ∈ kt.map (·.1), ∃ o, F' b = some o ∧ isfz o = false ∧ ∀ xs, o ≠ .tup xs)
include no
theorem sqt_off {b : Addr} {xs : List V} (h : SqT K F' b xs) : SqT K (off F' kt) b xs := by
  rcases h with h | h
  · have m : b ∉ kt.map (·.1) := fun m => by
      obtain ⟨o, h1, h2, h3⟩ := no b m
      rcases h with h | ⟨z, h⟩
      · rw [h1] at h
        exact h3 _ (Option.some.inj h)
      · rw [h1] at h
        cases h
        cases h2
    exact .inl (h.elim (fun q => .inl (by rw [off_out m]; exact q)) fun ⟨z, q⟩ => .inr ⟨z, by rw [off_out m]; exact q⟩)
  · exact .inr h
mutual
theorem rp_off : ∀ (d : D) (v : V), tI d = true → Rp K F' d v → Rp K (off F' kt) d v
  | .non, v, _, h => h
  | .bl _, v, _, h => h
  | .int _, v, _, h => h
  | .str _, v, _, h => h
  | .ty _, v, _, h => h
  | .adr _, v, _, h => h
  | .tup ds, v, t, h => by
    obtain ⟨b, xs, e, h1, h2⟩ := h
    exact ⟨b, xs, e, sqt_off no h1, rpl_off ds xs t h2⟩
theorem rpl_off : ∀ (ds : List D) (xs : List V), tIL ds = true → RpL K F' ds xs → RpL K (off F' kt) ds xs
  | [], xs, _, h => h
  | d :: ds, xs, t, h => by
    obtain ⟨x, ys, e, h1, h2⟩ := h
    rw [tIL, Bool.and_eq_true] at t
    exact ⟨x, ys, e, rp_off d x t.1 h1, rpl_off ds ys t.2 h2⟩
end
theorem rpk_off : ∀ (ds : List (Key × D)) (xs : List (Key × V)), (ds.all fun p => tI p.2) = true → RpK K F' ds xs → RpK K (off F' kt) ds xs
  | [], xs, _, h => h
  | (k, d) :: ds, xs, t, h => by
    obtain ⟨x, ys, e, h1, h2⟩ := h
    rw [List.all_cons, Bool.and_eq_true] at t
    exact ⟨x, ys, e, rp_off no d x t.1 h1, rpk_off ds ys t.2 h2⟩
theorem rpf_off : ∀ (ds : List (Str × D)) (xs : List (Str × V)), (ds.all fun p => tI p.2) = true → RpF K F' ds xs → RpF K (off F' kt) ds xs
  | [], xs, _, h => h
  | (k, d) :: ds, xs, t, h => by
    obtain ⟨x, ys, e, h1, h2⟩ := h
    rw [List.all_cons, Bool.and_eq_true] at t
    exact ⟨x, ys, e, rp_off no d x t.1 h1, rpf_off ds ys t.2 h2⟩
theorem ndok_off {b : Addr} (t : ndI n = true) (h : NdOk K F' H' b n) : NdOk K (off F' kt) H' b n := by
  cases n with
  | lst ds => obtain ⟨xs, e, r⟩ := h; exact ⟨xs, e, rpl_off no ds xs t r⟩
  | dic ds => obtain ⟨xs, e, r⟩ := h; exact ⟨xs, e, rpk_off no ds xs t r⟩
  | ins C ds => obtain ⟨dx, xs, e, r⟩ := h; exact ⟨dx, xs, e, rpf_off no ds xs t r⟩
  | xd ds => obtain ⟨xs, e, r⟩ := h; exact ⟨xs, e, rpf_off no ds xs t r⟩
  | _ => cases t
end
/-- the cells kt come back -/
theorem EnF.th_out (e : EnF K B F ro (k1 ++ kt) ta sg H) (kd : ∀ p ∈ kt, ndK p.2 = true) (g : Gr (thF B H kt) (thF F H kt) F') (e' : EnF K (thF B H kt) F' ro' k2 tb sg' H') (h2 : ∀ p ∈ k2, ndI p.2 = true)
    {tc : List (V × W)} (hc : ∀ p ∈ tc, p ∈ ta ∨ ∃ d, p.2 = .val d ∧ tI d = true ∧ p ∈ tb) : Gr B F (off F' kt) ∧ EnF K B (off F' kt) ro (k2 ++ kt) tc sg H' := by
  have t := e.thw kd
  have hB := e.thB
  have inF : ∀ b ∈ kt.map (·.1), F' b = H b ∧ H' b = H b ∧ ∃ o, H b = some o ∧ isfz o = false ∧ ∀ xs, o ≠ .tup xs := fun b m => by
    obtain ⟨p, hp, rfl⟩ := List.mem_map.mp m
    obtain ⟨o, ho, hz⟩ := ndok_kind (t.ok p hp) (kd p hp)
    have h1 : F' p.1 = some o := g.sub _ _ (by rw [thF_in m, ho])
    have h3 : H' p.1 = some o := e'.fr _ _ (by rw [thF_in m, ho])
    exact ⟨h1.trans ho.symm, h3.trans ho.symm, o, ho, hz⟩
  have no : ∀ b ∈ kt.map (·.1), ∃ o, F' b = some o ∧ isfz o = false ∧ ∀ xs, o ≠ .tup xs := fun b m => by
    obtain ⟨h1, _, o, ho, hz⟩ := inF b m
    exact ⟨o, h1.trans ho, hz⟩
  have gr : Gr B F (off F' kt) := by
    refine ⟨fun b u h => ?_, fun b h1 h2 => ?_⟩
    · have m : b ∉ kt.map (·.1) := fun m => by
        obtain ⟨p, hp, rfl⟩ := List.mem_map.mp m
        rw [t.no p hp] at h
        cases h
      rw [off_out m]
      exact g.sub _ _ (by rw [thF_out m]; exact h)
    · have m : b ∉ kt.map (·.1) := fun m => by
        obtain ⟨p, hp, rfl⟩ := List.mem_map.mp m
        exact h2 (hB p hp)
      rw [off_out m]
      exact g.off b (by rw [thF_out m]; exact h1) (by rw [thF_out m]; exact h2)
  refine ⟨gr, fun b u h => e'.nz b u (off_some h).2, fun b u h => e'.fz b u (off_some h).2, fun b u h => ?_, ?_, fun p hp => ?_, e.ln, fun i w h => ?_, fun p hp => ?_⟩
  · have m : b ∉ kt.map (·.1) := fun m => by
      obtain ⟨p, hp, rfl⟩ := List.mem_map.mp m
      rw [hB p hp] at h
      cases h
    exact e'.fr _ _ (by rw [thF_out m]; exact h)
  · have nd := e.nd
    rw [List.map_append, List.nodup_append] at nd ⊢
    refine ⟨e'.nd, nd.2.1, fun b h1 c h2 z => ?_⟩
    subst z
    obtain ⟨p, hp, rfl⟩ := List.mem_map.mp h1
    have n1 := (e'.ce p hp).1
    obtain ⟨q1, _, o, ho, _⟩ := inF p.1 h2
    rw [q1, ho] at n1
    cases n1
  · rcases List.mem_append.mp hp with hp | hp
    · obtain ⟨c1, c2, c3⟩ := e'.ce p hp
      have m : p.1 ∉ kt.map (·.1) := fun m => by
        obtain ⟨q1, _, o, ho, _⟩ := inF p.1 m
        rw [q1, ho] at c1
        cases c1
      refine ⟨by rw [off_out m]; exact c1, ?_, ndok_off no (h2 p hp) c3⟩
      rw [thF_out m] at c2
      exact c2
    · have m : p.1 ∈ kt.map (·.1) := List.mem_map.mpr ⟨p, hp, rfl⟩
      exact ⟨off_in m, hB p hp, ndok_at (inF p.1 m).2.1 (ndok_gr e.nz gr (t.ok p hp))⟩
  · obtain ⟨v, h1, h2⟩ := e.sl i w h
    exact ⟨v, h1, wok_gr e.nz gr h2⟩
  · rcases hc p hp with hp | ⟨d, e1, e2, hp⟩
    · exact wok_gr e.nz gr (e.tm p hp)
    · have := e'.tm p hp
      rw [e1] at this ⊢
      exact rp_off no d p.1 e2 this
end
/-! ### what a cell stands for -/
/-- the cell at a, with what stands behind it among kt, is the data d -/
def FrzD (K : PySem.W.Frag) (kt : Cells) (a : Addr) (d : D) : Prop := ∀ F H, Nz F → Thw K F H kt → Rp K (thF F H kt) d (.ref a)
/-- the same, or a cell and what it stands for -/
inductive FzR (K : PySem.W.Frag) (kt : Cells) : D → D → Prop where
  | s (d : D) : FzR K kt d d
  | a {a : Addr} {d : D} (h : FrzD K kt a d) : FzR K kt (.adr a) d
section
variable {K : PySem.W.Frag} {F H : Hp} {kt : Cells} {a : Addr} {C : Addr}
theorem FzR.rp {d e : D} {v : V} (z : FzR K kt d e) (nz : Nz F) (t : Thw K F H kt) (h : Rp K F d v) : Rp K (thF F H kt) e v := by
  cases z with
  | s => exact Rp.mono (thF_sub t.no).exz nz _ _ h
  | a q =>
    obtain rfl : v = _ := h
    exact q F H nz t
def FzL (K : PySem.W.Frag) (kt : Cells) : List D → List D → Prop
  | [], es => es = []
  | d :: ds, es => ∃ e r, es = e :: r ∧ FzR K kt d e ∧ FzL K kt ds r
theorem FzL.same : ∀ ds : List D, FzL K kt ds ds
  | [] => rfl
  | d :: ds => ⟨d, ds, rfl, .s d, FzL.same ds⟩
theorem FzL.rp (nz : Nz F) (t : Thw K F H kt) : ∀ {ds es : List D} {xs : List V}, FzL K kt ds es → RpL K F ds xs → RpL K (thF F H kt) es xs
  | [], es, xs, z, h => by
    obtain rfl : es = [] := z
    exact h
  | d :: ds, es, xs, ⟨e, r, e1, z1, z2⟩, ⟨x, ys, e2, h1, h2⟩ => by
    subst e1
    exact ⟨x, ys, e2, z1.rp nz t h1, FzL.rp nz t z2 h2⟩
def FzF (K : PySem.W.Frag) (kt : Cells) : List (Str × D) → List (Str × D) → Prop
  | [], es => es = []
  | (k, d) :: ds, es => ∃ e r, es = (k, e) :: r ∧ FzR K kt d e ∧ FzF K kt ds r
theorem FzF.rp (nz : Nz F) (t : Thw K F H kt) : ∀ {ds es : List (Str × D)} {xs : List (Str × V)}, FzF K kt ds es → RpF K F ds xs → RpF K (thF F H kt) es xs
  | [], es, xs, z, h => by
    obtain rfl : es = [] := z
    exact h
  | (k, d) :: ds, es, xs, ⟨e, r, e1, z1, z2⟩, ⟨x, ys, e2, h1, h2⟩ => by
    subst e1
    exact ⟨x, ys, e2, z1.rp nz t h1, FzF.rp nz t z2 h2⟩
theorem frz_l {ds es : List D} (m : (a, Nd.lst ds) ∈ kt) (z : FzL K kt ds es) : FrzD K kt a (.lst es) := fun F H nz t => by
  obtain ⟨xs, h, r⟩ := t.ok _ m
  exact ⟨a, xs, rfl, .inl (by rw [thF_in (List.mem_map.mpr ⟨_, m, rfl⟩)]; exact h), z.rp nz t r⟩
theorem frz_d {ds : List (Key × D)} (m : (a, Nd.dic ds) ∈ kt) : FrzD K kt a (.dic ds) := fun F H nz t => by
  obtain ⟨xs, h, r⟩ := t.ok _ m
  exact ⟨a, xs, rfl, .inl (by rw [thF_in (List.mem_map.mpr ⟨_, m, rfl⟩)]; exact h), RpK.mono (thF_sub t.no).exz nz _ _ r⟩
theorem frz_i {ds es : List (Str × D)} (m : (a, Nd.ins C ds) ∈ kt) (z : FzF K kt ds es) : FrzD K kt a (.ins C es) := fun F H nz t => by
  obtain ⟨dx, xs, h, r⟩ := t.ok _ m
  exact ⟨a, dx, xs, rfl, .inl (by rw [thF_in (List.mem_map.mpr ⟨_, m, rfl⟩)]; exact h), z.rp nz t r⟩
end
/-- the slots ro' are those of ro, but for cells that are told as what they stand for -/
structure RoT (K : PySem.W.Frag) (kt : Cells) (ro ro' : Ro) : Prop where
  len : ro'.length = ro.length
  at' : ∀ (i : Nat) (w : W), ro'[i]? = some (some w) → ro[i]? = some (some w) ∨ ∃ (a : Addr) (d : D), w = W.val d ∧ ro[i]? = some (some (W.val (.adr a))) ∧ FrzD K kt a d
section
variable {K : PySem.W.Frag} {B F F0 H H' : Hp} {ro ro' : Ro} {ka k1 k2 k3 kr kt : Cells} {ta tb : List (V × W)} {sg sg' : L2.St} {te tf : TE} {tt : TT} {w x y : W} {n : Nd} {a : Addr} {d : D}
theorem RoT.refl : RoT K kt ro ro := ⟨rfl, fun _ _ h => .inl h⟩
theorem RoT.set {i : Nat} (r : RoT K kt ro ro') (hi : ro[i]? = some (some (.val (.adr a)))) (z : FrzD K kt a d) : RoT K kt ro (ro'.set i (some (.val d))) := ⟨by rw [List.length_set]; exact r.len, fun j w h => by
  rw [List.getElem?_set] at h
  split at h
  · rename_i e
    subst e
    split at h
    · cases h
      exact .inr ⟨a, d, rfl, hi, z⟩
    · cases h
  · exact r.at' j w h⟩
theorem EnF.th_ro (e : EnF K B F ro (k1 ++ kt) ta sg H) (kd : ∀ p ∈ kt, ndK p.2 = true) (r : RoT K kt ro ro') : EnF K (thF B H kt) (thF F H kt) ro' k1 ta sg H := by
  have e1 := e.th_in kd
  refine { e1 with ln := e1.ln.trans r.len.symm, sl := fun i w h => ?_ }
  rcases r.at' i w h with h | ⟨a, d, rfl, h, z⟩
  · exact e1.sl i w h
  · obtain ⟨v, h1, h2⟩ := e1.sl i _ h
    obtain rfl : v = .ref a := h2
    exact ⟨_, h1, z F H e.nz (e.thw kd)⟩
/-- data is told, the cells kt stand behind -/
theorem EvD.thaw {d : D} (h : EvD K te ro' k1 (.val d) k2) (kd : ∀ p ∈ kt, ndK p.2 = true) (r : RoT K kt ro ro') (hd : tI d = true) (h2 : ∀ p ∈ k2, ndI p.2 = true) : EvD K te ro (k1 ++ kt) (.val d) (k2 ++ kt) := fun B F0 ta sg H Q e q => by
  obtain ⟨F, g, e⟩ := e
  refine h (thF B H kt) (thF F H kt) ta sg H _ ⟨_, Gr.refl _ _, e.th_ro kd r⟩ fun v H' ⟨F', g', e'⟩ => q v H' ?_
  obtain ⟨g2, e2⟩ := e.th_out kd g' e' h2 (tc := (v, .val d) :: ta) fun p hp => by
    rcases List.mem_cons.mp hp with rfl | hp
    · exact .inr ⟨d, rfl, hd, List.mem_cons_self⟩
    · exact .inl hp
  exact ⟨_, g.trans g2, e2⟩
theorem EvT.thaw {b : Bool} (h : EvT K tt ro' k1 b k2) (kd : ∀ p ∈ kt, ndK p.2 = true) (r : RoT K kt ro ro') (h2 : ∀ p ∈ k2, ndI p.2 = true) : EvT K tt ro (k1 ++ kt) b (k2 ++ kt) := fun B F0 ta sg H Q e q => by
  obtain ⟨F, g, e⟩ := e
  refine h (thF B H kt) (thF F H kt) ta sg H _ ⟨_, Gr.refl _ _, e.th_ro kd r⟩ fun H' ⟨F', g', e'⟩ => q H' ?_
  obtain ⟨g2, e2⟩ := e.th_out kd g' e' h2 (tc := ta) fun p hp => .inl hp
  exact ⟨_, g.trans g2, e2⟩
theorem EvN.thaw (h : EvN K te ro' k1 n k2) (kd : ∀ p ∈ kt, ndK p.2 = true) (r : RoT K kt ro ro') (hn : ndI n = true) (h2 : ∀ p ∈ k2, ndI p.2 = true) : ∀ B F0 ta sg H (Q : VK), En K B F0 ro (k1 ++ kt) ta sg H → (∀ a H', En K B F0 ro (k2 ++ kt ++ [(a, n)]) ta sg H' → Q (.ref a) H') → te sg H Q := fun B F0 ta sg H Q e q => by
  obtain ⟨F, g, e⟩ := e
  refine h (thF B H kt) (thF F H kt) ta sg H _ ⟨_, Gr.refl _ _, e.th_ro kd r⟩ fun a H' ⟨F', g', e'⟩ => q a H' ?_
  obtain ⟨g2, e2⟩ := e.th_out kd g' e' (k2 := k2 ++ [(a, n)]) (fun p hp => by
    rcases List.mem_append.mp hp with hp | hp
    · exact h2 p hp
    · rw [List.mem_singleton.mp hp]; exact hn) (tc := ta) fun p hp => .inl hp
  refine ⟨_, g.trans g2, e2.perm ?_⟩
  rw [List.append_assoc, List.append_assoc]
  exact List.Perm.append_left _ List.perm_append_comm
/-- what a word tells: data, and cells, that read no cell -/
theorem EvR.thaw {P : W → Cells → Prop} (h : EvR K te ro' k1 P) (kd : ∀ p ∈ kt, ndK p.2 = true) (r : RoT K kt ro ro') (hP : ∀ w k, P w k → (∃ d, w = .val d ∧ tI d = true) ∧ ∀ p ∈ k, ndI p.2 = true) : EvR K te ro (k1 ++ kt) (fun w k => ∃ k0, P w k0 ∧ k = k0 ++ kt) := fun B F0 ta sg H Q e q => by
  obtain ⟨F, g, e⟩ := e
  refine h (thF B H kt) (thF F H kt) ta sg H _ ⟨_, Gr.refl _ _, e.th_ro kd r⟩ fun w k v H' p ⟨F', g', e'⟩ => ?_
  obtain ⟨⟨d, rfl, hd⟩, hk⟩ := hP w k p
  obtain ⟨g2, e2⟩ := e.th_out kd g' e' hk (tc := (v, .val d) :: ta) fun p hp => by
    rcases List.mem_cons.mp hp with rfl | hp
    · exact .inr ⟨d, rfl, hd, List.mem_cons_self⟩
    · exact .inl hp
  exact q _ _ v H' ⟨k, p, rfl⟩ ⟨_, g.trans g2, e2⟩
/-- te raises -/
theorem EvX.thaw {E : XK} {C1 : Addr} {gs : List (Str × D)} (h : EvX K te ro' k1 E C1 gs k2) (kd : ∀ p ∈ kt, ndK p.2 = true) (r : RoT K kt ro ro') (hg : (gs.all fun p => tI p.2) = true) (h2 : ∀ p ∈ k2, ndI p.2 = true) : EvX K te ro (k1 ++ kt) E C1 gs (k2 ++ kt) := fun B F0 ta sg H Q e q => by
  obtain ⟨F, g, e⟩ := e
  refine h (thF B H kt) (thF F H kt) ta sg H _ ⟨_, Gr.refl _ _, e.th_ro kd r⟩ fun dx H' ⟨F', g', e'⟩ => q dx H' ?_
  obtain ⟨g2, e2⟩ := e.th_out kd g' e' (k2 := k2 ++ [(dx, .xd gs)]) (fun p hp => by
    rcases List.mem_append.mp hp with hp | hp
    · exact h2 p hp
    · rw [List.mem_singleton.mp hp]; exact hg) (tc := ta) fun p hp => .inl hp
  refine ⟨_, g.trans g2, e2.perm ?_⟩
  rw [List.append_assoc, List.append_assoc]
  exact List.Perm.append_left _ List.perm_append_comm
end
end DL

/-! EM: in and bool by an own class's methods; d.pop(k) (own work). -/
namespace DL
open PySem PySem.Spec PyProof.Rows L2 PySem.W
section
variable {X : Cx} {CX : CXT} {k : Nat} {C f : Addr} {fd : FuncData} {ps : List Str} {sp : Sp} {E : XK}
end
end DL
namespace DL
open PySem L2 PySem.W
section
variable {X : Cx} {k : Nat} {C f : Addr} {ps : List Str} {E : XK} {Ct' : Ct}
end
section
variable {K : PySem.W.Frag} {B F0 : Hp} {ro : Ro} {ka k1 k2 kr : Cells} {ta : List (V × W)} {te tf td ty : TE} {x y : W} {C a : Addr} {fs : List (Str × D)} {b : Bool} {E : XK} {De : Ends} {u : TS}
/-- d.pop(text), what it tells dropped -/
theorem g_dpop {s : Str} {d : D} {j : Nat} {ds : List (Key × D)} (ho : EvD K td ro ka (.val (.adr a)) k1) (h0 : ∃ (j0 : Nat) (ds0 : List (Key × D)), k1[j0]? = some (a, Nd.dic ds0)) (he : EvD K ty ro k1 (.val (.str s)) k2) (hj : k2[j]? = some (a, .dic ds)) (hd : getT ds (.inr s) = some d)
    (k : Gp K B F0 ta De.nx ro (k2.set j (a, .dic (dropT ds (.inr s))))) : Gp K B F0 ta (tDrop (tDPop1 td ty) De) ro ka := fun sg H e => by
  refine ho B F0 ta sg H _ e fun u H1 e1 => ?_
  obtain rfl := e1.tm_adr (v := u) (a := a) List.mem_cons_self
  obtain ⟨j0, ds0, h0⟩ := h0
  refine ⟨a, rfl, ?_, he B F0 _ sg H1 _ e1 fun v H2 e2 => ?_⟩
  · obtain ⟨_, _, _, xs, hx, _⟩ := e1.cellAt h0
    exact .inl ⟨xs, .inl hx⟩
  · obtain rfl := e2.tm_str (v := v) (i := s) List.mem_cons_self
    obtain ⟨F, g, ef, xs, hx, rx⟩ := e2.cellAt hj
    obtain ⟨z, hz, _⟩ := ((rpk_pt.mp rx).get (.inr s)).2 d hd
    refine ⟨xs, .inr s, z, hx, rfl, hz, k _ _ ⟨F, g, ?_⟩⟩
    exact (ef.write (o := .dK (dropK xs (.inr s))) (n' := .dic (dropT ds (.inr s))) hj ⟨_, upd_same, rpk_pt.mpr ((rpk_pt.mp rx).drop (.inr s))⟩).held fun p hp => List.mem_cons_of_mem _ (List.mem_cons_of_mem _ hp)
end
end DL
namespace DL
open PySem L2 PySem.W
/-- a def with defaults, called without them or with all -/
def FnE (P : Program) (w : World) (K : PySem.W.Frag) (mg : Str → Option Value) (base : Heap) (k : Nat) (f : Addr) (ps : List Str) (dvs : List V) (C : Ct) : Prop :=
  ∃ fd, FnOk P w K mg base (L2.CX P w) k f fd ps (spC K C) ∧ (∃ ds, Vals dvs ds ∧ Binds K fd ps ds) ∧ ∃ ds, Vals [] ds ∧ Binds K fd ps ds
section
variable {P : Program} {w : World} {K : PySem.W.Frag} {mg : Str → Option Value} {base : Heap} {k : Nat} {f : Addr} {ps N : List Str} {dvs : List V} {C : Ct} {x qual : Str} {params : Arguments} {body : List Stmt} {scope : Scope} {fd : FuncData}
theorem FnE.d (F : FnE P w K mg base k f ps dvs C) : FnD P w K mg base k f ps dvs C := let ⟨fd, a, b, _⟩ := F; ⟨fd, a, b⟩
theorem FnE.a (F : FnE P w K mg base k f ps dvs C) : Fn P w K mg base k f ps C := by
  obtain ⟨fd, a, _, ds, v, b⟩ := F
  cases v
  exact ⟨fd, a, b⟩
theorem fn_okE (F : FunD K x qual params body scope dvs [] f fd) (S : FnScope N ps scope) (hb : ∃ ds, Vals dvs ds ∧ Binds K fd ps ds) (hb2 : ∃ ds, Vals [] ds ∧ Binds K fd ps ds) (hl : ∀ ws ka out, C ws ka out → ws.length = ps.length)
    (h : ∀ (cdv : Value) (A : Around) (outer : List Env) (s : Shared) (H : Hp) (E : XK), Room k (A.deeper (PyProof.Rows.envOfC qual scope s.heap.objs.size f cdv)) →
      ∃ t, PSs (cxOf (L2.CX P w) P w K mg base N qual scope f cdv A outer s H E) body t ∧
        ∀ ws ka out B F0 Q, C ws ka out → RtOk K B F0 out Q → RxOk K B F0 out E → Gp K B F0 [] (t { nx := fun _ H' => Q .non H', rt := Q }) (ws.map some ++ List.replicate (N.length - ps.length) none) ka) : FnE P w K mg base (k + 1) f ps dvs C := by
  exact ⟨fd, fn_okG F S hl h, hb, hb2⟩
end
end DL
namespace DL
open PySem L2 PySem.W
/-- an own error that the law never raises: nothing is said of its __init__ -/
def spF : Sp := fun _ _ _ _ => False
structure Xf (P : Program) (w : World) (K : PySem.W.Frag) (mg : Str → Option Value) (base : Heap) (C : Addr) : Prop where
  xc : Xc K C
  ex : ∃ fI fd ps, findIn K (.ref C) "__init__" = some (some (.ref fI)) ∧ typeIn K (.ref fI) = some (.type "function") ∧ FnOk P w K mg base (L2.CX P w) 1 fI fd ps spF ∧ Binds K fd ps []
namespace Xf
variable {P : Program} {w : World} {K : PySem.W.Frag} {mg : Str → Option Value} {base : Heap} {C : Addr}
noncomputable def fI (Z : Xf P w K mg base C) : Addr := Classical.choose Z.ex
noncomputable def fd (Z : Xf P w K mg base C) : FuncData := Classical.choose (Classical.choose_spec Z.ex)
noncomputable def px (Z : Xf P w K mg base C) : List Str := Classical.choose (Classical.choose_spec (Classical.choose_spec Z.ex))
theorem all (Z : Xf P w K mg base C) : findIn K (.ref C) "__init__" = some (some (.ref Z.fI)) ∧ typeIn K (.ref Z.fI) = some (.type "function") ∧ FnOk P w K mg base (L2.CX P w) 1 Z.fI Z.fd Z.px spF ∧ Binds K Z.fd Z.px [] :=
  Classical.choose_spec (Classical.choose_spec (Classical.choose_spec Z.ex))
end Xf
end DL

/-! EN: any cells frozen for good, returns by a word, orders of cells (own work). -/
namespace DL
open PySem L2 PySem.W
section
variable {K : PySem.W.Frag} {B F F0 H : Hp} {ro ro' : Ro} {ka kb k1 k2 k3 kr kt : Cells} {ta : List (V × W)} {sg : L2.St} {te : TE} {tt : TT} {w : W} {n : Nd} {P : L2.St → Hp → Prop} {De : Ends} {b : Bool} {Q : W → Cells → Prop}
theorem EnF.frzT (e : EnF K B F ro (k1 ++ kt) ta sg H) (kd : ∀ p ∈ kt, ndK p.2 = true) (r : RoT K kt ro ro') : Gr B F (thF F H kt) ∧ EnF K B (thF F H kt) ro' k1 ta sg H := by
  have e1 := e.th_ro kd r
  have t := e.thw kd
  have hu : uni (thF B H kt) (thF F H kt) = uni B (thF F H kt) := funext fun a => by
    unfold uni
    by_cases m : a ∈ kt.map (·.1)
    · obtain ⟨p, hp, rfl⟩ := List.mem_map.mp m
      obtain ⟨o, ho, _⟩ := ndok_kind (t.ok p hp) (kd p hp)
      rw [thF_in m, ho]
    · rw [thF_out (F := B) m]
  have hw : ∀ v w, WOk K (thF B H kt) (thF F H kt) v w → WOk K B (thF F H kt) v w := fun v w h => by
    cases w with
    | val d => exact h
    | vw d =>
      show Rp K (uni B _) d v
      rw [← hu]
      exact h
  exact ⟨t.gr e.thB, e1.nz, e1.fz, e.fr, e1.nd, fun p hp => ⟨(e1.ce p hp).1, (e.ce p (List.mem_append_left _ hp)).2.1, (e1.ce p hp).2.2⟩, e1.ln, fun i w h => let ⟨v, a, b⟩ := e1.sl i w h; ⟨v, a, hw _ _ b⟩, fun p hp => hw _ _ (e1.tm p hp)⟩
/-- the cells kt are frozen, with what stands behind them -/
theorem Gp.frzT (kt : Cells) (hp : (kr ++ kt).Perm ka) (kd : ∀ p ∈ kt, ndK p.2 = true) (r : RoT K kt ro ro') (h : Gp K B F0 ta P ro' kr) : Gp K B F0 ta P ro ka := fun sg H e => by
  obtain ⟨F, g, e⟩ := e.perm hp
  obtain ⟨g2, e2⟩ := e.frzT kd r
  exact h sg H ⟨_, g.trans g2, e2⟩
/-- a return of which a word tells -/
theorem g_retE {out : Oc} (hr : RtOk K B F0 out De.rt) (h : EvR K te ro ka Q) (o : ∀ w k, Q w k → ∃ d, w = .val d ∧ out (.ret d) k) : Gp K B F0 ta (tRet te De) ro ka := fun sg H e => h B F0 ta sg H _ e fun w k v H' q e' => by
  obtain ⟨d, rfl, ho⟩ := o w k q
  exact hr d k v H' ho e'.leave
theorem EvD.pm (h : EvD K te ro k1 w k2) (s1 : k1.Perm ka) (s2 : k2.Perm kb) : EvD K te ro ka w kb := fun B F0 ta sg H Q e q => h B F0 ta sg H Q (e.perm s1) fun v H' e' => q v H' (e'.perm s2.symm)
theorem EvT.pm (h : EvT K tt ro k1 b k2) (s1 : k1.Perm ka) (s2 : k2.Perm kb) : EvT K tt ro ka b kb := fun B F0 ta sg H Q e q => h B F0 ta sg H Q (e.perm s1) fun H' e' => q H' (e'.perm s2.symm)
theorem EvR.pm (h : EvR K te ro k1 Q) (s1 : k1.Perm ka) : EvR K te ro ka Q := fun B F0 ta sg H Q e q => h B F0 ta sg H Q (e.perm s1) q
theorem EvR.fr {P2 : W → Cells → Prop} (h : EvR K te ro k1 P2) (kr : Cells) (hP : ∀ w k, P2 w k → ∃ d, w = .val d) : EvR K te ro (k1 ++ kr) (fun w k => ∃ k0, P2 w k0 ∧ k = k0 ++ kr) := fun B F0 ta sg H Q e q => by
  obtain ⟨F, g, e⟩ := e
  refine h (off H k1) F [] sg H _ ⟨F, Gr.refl _ _, e.into e.ln (fun i w h => e.sl i w h) (fun p hp => by cases hp)⟩ fun w k v H' p e' => ?_
  obtain ⟨F', g', e'⟩ := e'
  obtain ⟨d, rfl⟩ := hP w k p
  obtain ⟨g2, e2⟩ := e.back g' e' (tb := (v, .val d) :: ta) fun p hp => by
    rcases List.mem_cons.mp hp with rfl | hp
    · exact .inr ⟨d, rfl, List.mem_cons_self⟩
    · exact .inl hp
  exact q _ _ v H' ⟨k, p, rfl⟩ ⟨F', g.trans g2, e2⟩
end
end DL
namespace DL
open PySem L2 PySem.W
section
variable {K : PySem.W.Frag} {ro : Ro} {ka k1 k2 : Cells} {ty td : TE} {P : W → Cells → Prop}
end
end DL
namespace DL
open PySem L2 PySem.W
/-- a test of whose end a word tells -/
def EvTR (K : PySem.W.Frag) (tt : TT) (ro : Ro) (ka : Cells) (R : Bool → Cells → Prop) : Prop := ∀ B F0 ta sg H (Q : Bool → Hp → Prop), En K B F0 ro ka ta sg H → (∀ b k H', R b k → En K B F0 ro k ta sg H' → Q b H') → tt sg H Q
section
variable {K : PySem.W.Frag} {B F0 : Hp} {ro : Ro} {ka k1 k2 : Cells} {ta : List (V × W)} {tt tu : TT} {De : Ends} {t t' u : TS} {R : Bool → Cells → Prop} {a b : Bool}
theorem g_ifR (h : EvTR K tt ro ka R) (h1 : ∀ k, R true k → Gp K B F0 ta (t De) ro k) (h2 : ∀ k, R false k → Gp K B F0 ta (t' De) ro k) : Gp K B F0 ta (tIfS tt t t' De) ro ka := fun sg H e => h B F0 ta sg H _ e fun b k H' r e' => by
  cases b with
  | true => exact h1 k r sg H' e'
  | false => exact h2 k r sg H' e'
theorem etr_and (h : EvT K tt ro ka a k1) (hF : a = false → R false k1) (h2 : a = true → EvTR K tu ro k1 R) : EvTR K (tAnd tt tu) ro ka R := fun B F0 ta sg H Q e q => h B F0 ta sg H _ e fun H' e' => by
  cases a with
  | false => exact q false k1 H' (hF rfl) e'
  | true => exact h2 rfl B F0 ta sg H' Q e' q
theorem EvT.toTR (h : EvT K tt ro ka a k1) (r : R a k1) : EvTR K tt ro ka R := fun B F0 ta sg H Q e q => h B F0 ta sg H _ e fun H' e' => q a k1 H' r e'
end
end DL
namespace DL
open PySem L2 PySem.W
section
variable {K : PySem.W.Frag} {ro : Ro} {ka k1 k2 : Cells} {te : TE} {tr : TA} {C C1 : Addr} {gs : List (Str × D)} {E : XK} {ws : List W} {Cc : Ct}
end
end DL
namespace DL
open PySem L2 PySem.W
section
variable {K : PySem.W.Frag} {ro : Ro} {ka k1 k2 : Cells} {te : TE} {tt : TT} {C : Addr} {fs : List (Str × D)} {b : Bool} {w : W} {E : XK} {Cc : Ct} {P : W → Cells → Prop} {R : Bool → Cells → Prop}
theorem evr_prop {out : Oc} (kr : Cells) (h : EvD K te ro ka w (k1 ++ kr)) (l : Io (k1 ++ kr) w C fs b) (hC : Cc [w] k1 out) (ho : ∀ o k, out o k → ∃ d, o = .ret d) : EvR K (tProp C (spC K Cc) [] E te) ro ka (fun w' k => ∃ d k3, out (.ret d) k3 ∧ w' = .val d ∧ k = k3 ++ kr) := fun B F0 ta sg H Q e q => h B F0 ta sg H _ e fun u H1 e1 => by
  obtain ⟨a, dx, xs, rfl, ha⟩ := l.en e1 List.mem_cons_self
  exact ⟨a, dx, xs, rfl, ha, sp_rel (vs := [.ref a]) (ws := [w]) (ta := ta) e1 rfl hC ho fun d k3 v3 H' o e3 => q _ _ v3 H' ⟨d, k3, o, rfl, rfl⟩ e3⟩
end
end DL


/-! EP: comprehensions over pairs; isinstance of several types (own work). -/
namespace DL
open PySem L2 PySem.W
section
variable {K : PySem.W.Frag} {B F F0 : Hp} {ro : Ro} {ka k1 : Cells} {ta : List (V × W)} {sg : L2.St} {H : Hp} {te : TE} {tt : TT} {d1 d2 : D} {j l : Nat}
end
section
variable {K : PySem.W.Frag} {ro : Ro} {ka k1 k2 : Cells} {te tf : TE} {w : W}
/-- the type of what w stands for, wherever it is asked -/
def TwX (K : PySem.W.Frag) (ka : Cells) (w : W) (t : Value) : Prop := ∀ B F0 ro ta sg H v, En K B F0 ro ka ta sg H → (v, w) ∈ ta → TyX K H v t
theorem Tw.x {t : Value} (l : Tw K ka w t) : TwX K ka w t := fun _ _ _ _ _ _ _ e h => l.at e h
end
end DL
namespace DL
open PySem L2 PySem.W
theorem evn_filt_to {K : PySem.W.Frag} {ro : Ro} {ka k1 : Cells} {te : TE} {ds es : List D} (h : EvN K te ro ka (.lst ds) k1) (e : ds = es) : EvN K te ro ka (.lst es) k1 := e ▸ h
end DL
namespace DL
open PySem L2 PySem.W
section
variable {K : PySem.W.Frag} {ro : Ro} {ka k1 k2 : Cells} {te : TE} {tr : TA} {w : W} {C C1 : Addr} {fs : List (Str × D)} {b : Bool} {E : XK} {Cc : Ct} {ws : List W}
end
end DL

/-! EQ: for over a list of which a word tells (own work). -/
namespace DL
open PySem L2 PySem.W
section
variable {K : PySem.W.Frag} {B F F0 : Hp} {ro : Ro} {ka k1 k2 k3 kr : Cells} {ta : List (V × W)} {sg : L2.St} {H H' : Hp} {te tf tg : TE} {w x y z : W} {n : Nd} {P P2 : W → Cells → Prop} {De : Ends} {u : TS} {r : R2}
/-- o.m(..) raises, the net's cells in hand -/
theorem evx_meth {m : Str} {E E' : XK} {C C1 : Addr} {fs gs : List (Str × D)} {b : Bool} {Cc : Ct} {ws : List W} {tr : TA} (kr : Cells) (h : EvD K te ro ka w k1) (l : Io k1 w C fs b) (hm : fs.lookup m = none) (ha : EvA K tr ro k1 ws (k2 ++ kr)) (hC : Cc (w :: ws) k2 (Xt C1 gs k3)) (hE : E' = E) : EvX K (tMeth C m (spC K Cc) [] E' te tr) ro ka E C1 gs (k3 ++ kr) := fun B F0 ta sg H Q e q => by
  subst hE
  refine h B F0 ta sg H _ e fun v H1 e1 => ?_
  obtain ⟨F, g, ef⟩ := id e1
  obtain ⟨a, dx, xs, rfl, ha1, rx⟩ := l.get ef (ef.tm _ List.mem_cons_self)
  refine ⟨a, dx, xs, rfl, ha1, rpf_none rx hm, ha B F0 _ sg H1 _ e1 fun vs H2 hl e2 => ?_⟩
  rw [List.append_nil]
  refine sp_exc (ws := w :: ws) (vs := .ref a :: vs) (kr := kr) (ta := ta) (e2.held fun p hp => ?_) (by rw [List.length_cons, List.length_cons, hl]) hC (fun _ _ z => z) fun dx H' e3 => q dx H' (e3.perm ?_)
  · have hp' : p ∈ (V.ref a, w) :: (vs.zip ws ++ ta) := hp
    rcases List.mem_cons.mp hp' with rfl | hp
    · exact List.mem_append_right _ List.mem_cons_self
    · rcases List.mem_append.mp hp with hp | hp
      · exact List.mem_append_left _ hp
      · exact List.mem_append_right _ (List.mem_cons_of_mem _ hp)
  · rw [List.append_assoc, List.append_assoc]
    exact List.Perm.append_left _ List.perm_append_comm
theorem etR_or0 {tt tu : TT} {R : Bool → Cells → Prop} (h1 : EvT K tt ro ka false k1) (h2 : EvTR K tu ro k1 R) : EvTR K (tOr tt tu) ro ka R := fun B F0 ta sg H Q e q => h1 B F0 ta sg H _ e fun H1 e1 => h2 B F0 ta sg H1 Q e1 q
end
end DL

/-! ES: what the courses' laws want (own work). -/
namespace DL
open PySem L2 PySem.W
/-! an object made where the wish of an exception may speak of the slots -/
section
variable {X : Cx} {CX : CXT} {k : Nat} {C f : Addr} {fd : FuncData} {ps : List Str} {sp : Sp} {dvs : List V} {ds : List Value}
end
section
variable {K : PySem.W.Frag} {B F0 : Hp} {ro : Ro} {ka k1 k2 k3 : Cells} {ta : List (V × W)} {te tf tg : TE} {tt : TT} {De : Ends} {t u : TS} {w x y : W}
/-- arguments told by a word -/
def EvAR (K : PySem.W.Frag) (tr : TA) (ro : Ro) (ka : Cells) (R : List W → Cells → Prop) : Prop := ∀ B F0 ta sg H (Q : List V → Hp → Prop), En K B F0 ro ka ta sg H → (∀ ws k vs H', R ws k → vs.length = ws.length → En K B F0 ro k (vs.zip ws ++ ta) sg H' → Q vs H') → tr sg H Q
theorem ear_nil : EvAR K tNil ro ka (fun ws k => ws = [] ∧ k = ka) := fun B F0 ta sg H Q e q => q [] ka [] H ⟨rfl, rfl⟩ rfl e
theorem ear_cons {tr : TA} {P : W → Cells → Prop} {R : W → List W → Cells → Prop} (h : EvR K te ro ka P) (hr : ∀ w k, P w k → EvAR K tr ro k (R w)) : EvAR K (tCons te tr) ro ka (fun ws k => ∃ w ws', ws = w :: ws' ∧ R w ws' k) := fun B F0 ta sg H Q e q =>
  h B F0 ta sg H _ e fun w k1 u H1 p e1 => hr w k1 p B F0 _ sg H1 _ e1 fun ws k2 vs H2 r hl e2 => q (w :: ws) k2 (u :: vs) H2 ⟨w, ws, rfl, r⟩ (by rw [List.length_cons, List.length_cons, hl]) (e2.held fun p hp => by
    have hp' : p ∈ (u, w) :: (vs.zip ws ++ ta) := hp
    rcases List.mem_cons.mp hp' with rfl | h
    · exact List.mem_append_right _ List.mem_cons_self
    · rcases List.mem_append.mp h with h | h
      · exact List.mem_append_left _ h
      · exact List.mem_append_right _ (List.mem_cons_of_mem _ h))
theorem ear_cD {tr : TA} {R : List W → Cells → Prop} (h : EvD K te ro ka w k1) (hr : EvAR K tr ro k1 R) : EvAR K (tCons te tr) ro ka (fun ws k => ∃ ws', ws = w :: ws' ∧ R ws' k) := fun B F0 ta sg H Q e q =>
  h B F0 ta sg H _ e fun u H1 e1 => hr B F0 _ sg H1 _ e1 fun ws k2 vs H2 r hl e2 => q (w :: ws) k2 (u :: vs) H2 ⟨ws, rfl, r⟩ (by rw [List.length_cons, List.length_cons, hl]) (e2.held fun p hp => by
    have hp' : p ∈ (u, w) :: (vs.zip ws ++ ta) := hp
    rcases List.mem_cons.mp hp' with rfl | h
    · exact List.mem_append_right _ List.mem_cons_self
    · rcases List.mem_append.mp h with h | h
      · exact List.mem_append_left _ h
      · exact List.mem_append_right _ (List.mem_cons_of_mem _ h))
theorem EvA.toR {tr : TA} {ws : List W} (h : EvA K tr ro ka ws k1) : EvAR K tr ro ka (fun ws' k => ws' = ws ∧ k = k1) := fun B F0 ta sg H Q e q => h B F0 ta sg H _ e fun vs H' hl e' => q ws k1 vs H' ⟨rfl, rfl⟩ hl e'
theorem EvAR.imp {tr : TA} {R R2 : List W → Cells → Prop} (h : EvAR K tr ro ka R) (i : ∀ ws k, R ws k → R2 ws k) : EvAR K tr ro ka R2 := fun B F0 ta sg H Q e q => h B F0 ta sg H Q e fun ws k vs H' r => q ws k vs H' (i ws k r)
/-- what raises lets the def end so -/
theorem g_dropP {out : Oc} {E : XK} {C1 : Addr} {gs : List (Str × D)} (hX : RxOk K B F0 out E) (h : EvX K te ro ka E C1 gs k2) (o : out (.exc C1 gs) k2) : Gp K B F0 ta (tDrop te De) ro ka := fun sg H e => h B F0 ta sg H _ e fun dx H' e' => hX.1 C1 gs k2 dx H' o e'.leaveX
theorem q_dropP {out : Oc} {E : XK} {C1 : Addr} {gs : List (Str × D)} (hX : RxOk K B F0 out E) (h : EvX K te ro ka E C1 gs k2) (o : out (.exc C1 gs) k2) : Gp K B F0 ta (tSeq (tDrop te) u De) ro ka := g_dropP (De := { De with nx := u De }) hX h o
/-- a target of several names, the value told by a word -/
theorem g_asgRT {g : TG} {P : W → Cells → Prop} (h : EvR K te ro ka P) (k : ∀ w k1, P w k1 → ∃ ro', AsT K g w ro ro' ∧ Gp K B F0 ta De.nx ro' k1) : Gp K B F0 ta (tAsg te g De) ro ka := fun sg H e => h B F0 ta sg H _ e fun w k1 v H1 p e1 =>
  let ⟨ro', a, kk⟩ := k w k1 p
  a B F0 k1 _ sg H1 v _ e1 List.mem_cons_self fun sg' e' => kk _ _ e'.pop
theorem q_asgRT {g : TG} {P : W → Cells → Prop} (h : EvR K te ro ka P) (k : ∀ w k1, P w k1 → ∃ ro', AsT K g w ro ro' ∧ Gp K B F0 ta (u De) ro' k1) : Gp K B F0 ta (tSeq (tAsg te g) u De) ro ka := g_asgRT (De := { De with nx := u De }) h k
theorem EvR.rp {P P2 : W → Cells → Prop} (h : EvR K te ro ka P) (hP : ∀ w k, P w k → ∃ k', P2 w k' ∧ k'.Perm k) : EvR K te ro ka P2 := fun B F0 ta sg H Q e q => h B F0 ta sg H Q e fun w k v H' p e' =>
  let ⟨k', p2, s⟩ := hP w k p
  q w k' v H' p2 (e'.perm s)
end
section
variable {P : Program} {w : World} {K : PySem.W.Frag} {mg : Str → Option Value} {base : Heap} {k : Nat} {x qual : Str} {N ps : List Str} {params : Arguments} {body : List Stmt} {scope : Scope} {f : Addr} {fd : FuncData} {C : Ct}
end
section
variable {K : PySem.W.Frag} {B F0 : Hp} {ro : Ro} {ka k1 k2 k3 : Cells} {te tf : TE} {w : W}
theorem list_snoc_ind {α : Type} {P : List α → Prop} (nil : P []) (snoc : ∀ (xs : List α) (x : α), P xs → P (xs ++ [x])) (xs : List α) : P xs := by
  have key : ∀ ys : List α, P ys.reverse := by
    intro ys
    induction ys with
    | nil => exact nil
    | cons y ys ih => rw [List.reverse_cons]; exact snoc _ _ ih
  have := key xs.reverse
  rwa [List.reverse_reverse] at this
end
end DL

/-! EU: lanes joined along a search for a way that joins one more (own work): plain lists. -/
namespace DL
open PySem L2 PySem.W
/-! a table of texts -/
abbrev Tb := List (Str × Str)
def getS (fo : Tb) (o : Str) : Option Str := (fo.find? fun p => decide (p.1 = o)).map (·.2)
def putS (fo : Tb) (o u : Str) : Tb := if o ∈ fo.map (·.1) then fo.map fun p => if p.1 = o then (o, u) else p else fo ++ [(o, u)]
theorem getS_some {fo : Tb} {o w : Str} (h : getS fo o = some w) : (o, w) ∈ fo := by
  unfold getS at h
  obtain ⟨p, h1, rfl⟩ := Option.map_eq_some_iff.mp h
  have h2 := List.find?_some h1
  have h3 := of_decide_eq_true h2
  subst h3
  exact List.mem_of_find?_eq_some h1
theorem getS_none {fo : Tb} {o : Str} : getS fo o = none ↔ ¬ o ∈ fo.map (·.1) := by
  unfold getS
  rw [Option.map_eq_none_iff, List.find?_eq_none]
  constructor
  · intro h z
    obtain ⟨p, h1, rfl⟩ := List.mem_map.mp z
    exact h p h1 (decide_eq_true rfl)
  · intro h p hp z
    exact h (List.mem_map.mpr ⟨p, hp, of_decide_eq_true z⟩)
theorem getS_mem {fo : Tb} (hn : (fo.map (·.1)).Nodup) {o w : Str} (h : (o, w) ∈ fo) : getS fo o = some w := by
  cases hg : getS fo o with
  | none => exact absurd (List.mem_map.mpr ⟨_, h, rfl⟩) (getS_none.mp hg)
  | some v =>
    have h2 := getS_some hg
    induction fo with
    | nil => cases h
    | cons p l ih =>
      have hn2 := List.nodup_cons.mp hn
      rcases List.mem_cons.mp h with e1 | h1
      · rcases List.mem_cons.mp h2 with e2 | h3
        · rw [← e1] at e2
          cases e2; rfl
        · exact absurd (List.mem_map.mpr ⟨(o, v), h3, by rw [← e1]⟩ : p.1 ∈ l.map (·.1)) hn2.1
      · rcases List.mem_cons.mp h2 with e2 | h3
        · exact absurd (List.mem_map.mpr ⟨(o, w), h1, by rw [← e2]⟩ : p.1 ∈ l.map (·.1)) hn2.1
        · have e : getS (p :: l) o = getS l o := by
            have ne : ¬ p.1 = o := fun z => hn2.1 (List.mem_map.mpr ⟨(o, w), h1, z.symm⟩)
            unfold getS
            rw [List.find?_cons_of_neg (by simp [ne])]
          rw [e] at hg
          exact ih hn2.2 h1 hg h3
theorem putS_keys {fo : Tb} {o u : Str} : (putS fo o u).map (·.1) = if o ∈ fo.map (·.1) then fo.map (·.1) else fo.map (·.1) ++ [o] := by
  unfold putS
  split
  · rw [List.map_map]
    refine List.map_congr_left fun p _ => ?_
    show (if p.1 = o then (o, u) else p).1 = p.1
    split
    · rename_i h; exact h.symm
    · rfl
  · rw [List.map_append]; rfl
theorem putS_nd {fo : Tb} {o u : Str} (hn : (fo.map (·.1)).Nodup) : ((putS fo o u).map (·.1)).Nodup := by
  rw [putS_keys]
  split
  · exact hn
  · rename_i h
    rw [List.nodup_append]
    exact ⟨hn, List.nodup_cons.mpr ⟨List.not_mem_nil, List.nodup_nil⟩, fun x hx y hy z => h (by rw [List.mem_singleton.mp hy] at z; rw [← z]; exact hx)⟩
theorem putS_has {fo : Tb} {o u x : Str} : x ∈ (putS fo o u).map (·.1) ↔ x = o ∨ x ∈ fo.map (·.1) := by
  rw [putS_keys]
  split
  · rename_i h
    constructor
    · exact .inr
    · rintro (rfl | h2)
      · exact h
      · exact h2
  · rw [List.mem_append, List.mem_singleton]
    exact Or.comm
theorem putS_mem {fo : Tb} {o u x w : Str} (h : (x, w) ∈ putS fo o u) : (x = o ∧ w = u) ∨ (x, w) ∈ fo := by
  unfold putS at h
  split at h
  · obtain ⟨p, h1, h2⟩ := List.mem_map.mp h
    split at h2
    · cases h2; exact .inl ⟨rfl, rfl⟩
    · rw [← h2]; exact .inr h1
  · rcases List.mem_append.mp h with h | h
    · exact .inr h
    · cases List.mem_singleton.mp h; exact .inl ⟨rfl, rfl⟩
theorem getS_other {fo : Tb} {o u x : Str} (h : x ≠ o) : getS (putS fo o u) x = getS fo x := by
  unfold getS putS
  split
  · have key : ∀ l : Tb, ((l.map fun p => if p.1 = o then (o, u) else p).find? fun p => decide (p.1 = x)).map (·.2) = (l.find? fun p => decide (p.1 = x)).map (·.2) := by
      intro l
      induction l with
      | nil => rfl
      | cons p l ih =>
        rw [List.map_cons]
        by_cases e : p.1 = o
        · rw [if_pos e, List.find?_cons_of_neg (by simp [Ne.symm h]), List.find?_cons_of_neg (by rw [e]; simp [Ne.symm h])]
          exact ih
        · rw [if_neg e]
          by_cases e2 : p.1 = x
          · rw [List.find?_cons_of_pos (by simp [e2]), List.find?_cons_of_pos (by simp [e2])]
          · rw [List.find?_cons_of_neg (by simp [e2]), List.find?_cons_of_neg (by simp [e2])]
            exact ih
    exact key fo
  · rw [List.find?_append]
    have : ([(o, u)] : Tb).find? (fun p => decide (p.1 = x)) = none := by rw [List.find?_cons_of_neg (by simp [Ne.symm h])]; rfl
    rw [this, Option.or_none]
/-- the values behind a put -/
theorem putS_vals {fo : Tb} {o u w : Str} (hn : (fo.map (·.1)).Nodup) (h : getS fo o = some w) : (w :: (putS fo o u).map (·.2)).Perm (u :: fo.map (·.2)) := by
  have hm := getS_some h
  have hk : o ∈ fo.map (·.1) := List.mem_map.mpr ⟨_, hm, rfl⟩
  unfold putS
  rw [if_pos hk]
  clear h hk
  induction fo with
  | nil => cases hm
  | cons p l ih =>
    have hn2 := List.nodup_cons.mp hn
    rcases List.mem_cons.mp hm with e | hm
    · subst e
      rw [List.map_cons, List.map_cons, List.map_cons, if_pos rfl]
      have e2 : (l.map fun p => if p.1 = o then (o, u) else p) = l := by
        have : ∀ q ∈ l, (if q.1 = o then (o, u) else q) = q := fun q hq => if_neg fun z => hn2.1 (List.mem_map.mpr ⟨q, hq, z⟩)
        exact (List.map_congr_left this).trans (List.map_id _)
      rw [e2]
      exact List.Perm.swap _ _ _
    · have ne : ¬ p.1 = o := fun z => hn2.1 (List.mem_map.mpr ⟨_, hm, z.symm⟩)
      rw [List.map_cons, List.map_cons, List.map_cons, if_neg ne]
      exact (List.Perm.swap _ _ _).trans (((ih hn2.2 hm).cons _).trans (List.Perm.swap _ _ _))
theorem putS_valsN {fo : Tb} {o u : Str} (h : getS fo o = none) : (putS fo o u).map (·.2) = fo.map (·.2) ++ [u] := by
  unfold putS
  rw [if_neg (getS_none.mp h), List.map_append]
  rfl
/-! the search -/
structure Js where
  fo : Tb
  tr : List Str
def augL (rec : Str → Js → Bool × Js) (u : Str) : List Str → Js → Bool × Js
  | [], s => (false, s)
  | o :: os, s => if o ∈ s.tr then augL rec u os s else
    match getS s.fo o with
    | none => (true, ⟨putS s.fo o u, s.tr ++ [o]⟩)
    | some w => match rec w ⟨s.fo, s.tr ++ [o]⟩ with
      | (true, s2) => (true, ⟨putS s2.fo o u, s2.tr⟩)
      | (false, s2) => augL rec u os s2
def aug (bh : Str → List Str) : Nat → Str → Js → Bool × Js
  | 0, _, s => (false, s)
  | n + 1, u, s => augL (aug bh n) u (bh u) s
/-- what a search leaves: what was tried stays; tried ones keep their place; without success all stays -/
structure Ag (s : Js) (r : Bool × Js) : Prop where
  tr : ∀ x ∈ s.tr, x ∈ r.2.tr
  keep : ∀ x ∈ s.tr, getS r.2.fo x = getS s.fo x
  fail : r.1 = false → r.2.fo = s.fo
  nd : (s.fo.map (·.1)).Nodup → (r.2.fo.map (·.1)).Nodup
theorem ag_L {rec : Str → Js → Bool × Js} (hr : ∀ w s, Ag s (rec w s)) (u : Str) : ∀ (os : List Str) (s : Js), Ag s (augL rec u os s)
  | [], s => ⟨fun _ h => h, fun _ _ => rfl, fun _ => rfl, fun h => h⟩
  | o :: os, s => by
    unfold augL
    split
    · exact ag_L hr u os s
    · rename_i hno
      split
      · exact ⟨fun x h => List.mem_append_left _ h, fun x h => getS_other fun z => hno (by rw [← z]; exact h), fun z => (by cases z), putS_nd⟩
      · rename_i w hw
        have a := hr w ⟨s.fo, s.tr ++ [o]⟩
        split
        · rename_i s2 e
          rw [e] at a
          refine ⟨fun x h => a.tr x (List.mem_append_left _ h), fun x h => ?_, fun z => (by cases z), fun h => putS_nd (a.nd h)⟩
          exact (getS_other fun z => hno (by rw [← z]; exact h)).trans (a.keep x (List.mem_append_left _ h))
        · rename_i s2 e
          rw [e] at a
          have b := ag_L hr u os s2
          refine ⟨fun x h => b.tr x (a.tr x (List.mem_append_left _ h)), fun x h => (b.keep x (a.tr x (List.mem_append_left _ h))).trans (a.keep x (List.mem_append_left _ h)), fun z => (b.fail z).trans (a.fail rfl), fun h => b.nd (a.nd h)⟩
theorem ag_all (bh : Str → List Str) : ∀ (n : Nat) (u : Str) (s : Js), Ag s (aug bh n u s)
  | 0, u, s => ⟨fun _ h => h, fun _ _ => rfl, fun _ => rfl, fun h => h⟩
  | n + 1, u, s => ag_L (ag_all bh n) u (bh u) s
/-- success: u has a place more -/
theorem aug_vals (bh : Str → List Str) : ∀ (n : Nat) (u : Str) (s s' : Js), (s.fo.map (·.1)).Nodup → aug bh n u s = (true, s') → (s'.fo.map (·.2)).Perm (u :: s.fo.map (·.2))
  | 0, u, s, s', _, h => by cases h
  | n + 1, u, s, s', hn, h => by
    have key : ∀ (os : List Str) (s : Js), (s.fo.map (·.1)).Nodup → augL (aug bh n) u os s = (true, s') → (s'.fo.map (·.2)).Perm (u :: s.fo.map (·.2)) := by
      intro os
      induction os with
      | nil => intro s _ h; cases h
      | cons o os ih =>
        intro s hn h
        unfold augL at h
        split at h
        · exact ih s hn h
        · split at h
          · rename_i hg
            cases h
            show ((putS s.fo o u).map (·.2)).Perm _
            rw [putS_valsN hg]
            exact List.perm_append_comm
          · rename_i w hw
            have a := ag_all bh n w ⟨s.fo, s.tr ++ [o]⟩
            split at h
            · rename_i s2 e
              cases h
              have ihv := aug_vals bh n w ⟨s.fo, s.tr ++ [o]⟩ _ hn e
              rw [e] at a
              have hk : getS s2.fo o = some w := (a.keep o (List.mem_append_right _ (List.mem_singleton.mpr rfl))).trans hw
              have p1 := putS_vals (u := u) (a.nd hn) hk
              exact (List.Perm.cons_inv (a := w) (p1.trans ((ihv.cons u).trans (List.Perm.swap _ _ _))))
            · rename_i s2 e
              rw [e] at a
              have hf : s2.fo = s.fo := a.fail rfl
              have := ih s2 (a.nd hn) h
              rwa [hf] at this
    exact key _ _ hn h
/-- all pairs are of the relation -/
theorem aug_edge {bh : Str → List Str} : ∀ (n : Nat) (u : Str) (s : Js), (∀ p ∈ s.fo, p.1 ∈ bh p.2) → ∀ p ∈ (aug bh n u s).2.fo, p.1 ∈ bh p.2
  | 0, u, s, h => h
  | n + 1, u, s, h => by
    have key : ∀ (os : List Str) (s : Js), (∀ o ∈ os, o ∈ bh u) → (∀ p ∈ s.fo, p.1 ∈ bh p.2) → ∀ p ∈ (augL (aug bh n) u os s).2.fo, p.1 ∈ bh p.2 := by
      intro os
      induction os with
      | nil => intro s _ h; exact h
      | cons o os ih =>
        intro s hos h
        have put : ∀ fo : Tb, (∀ p ∈ fo, p.1 ∈ bh p.2) → ∀ p ∈ putS fo o u, p.1 ∈ bh p.2 := fun fo hf p hp => by
          rcases putS_mem (x := p.1) (w := p.2) hp with ⟨e1, e2⟩ | hp
          · rw [e1, e2]; exact hos o List.mem_cons_self
          · exact hf _ hp
        unfold augL
        split
        · exact ih s (fun x hx => hos x (List.mem_cons_of_mem _ hx)) h
        · split
          · exact put _ h
          · rename_i w hw
            have hr := aug_edge n w ⟨s.fo, s.tr ++ [o]⟩ h
            split
            · rename_i s2 e
              rw [e] at hr
              exact put _ hr
            · rename_i s2 e
              rw [e] at hr
              exact ih s2 (fun x hx => hos x (List.mem_cons_of_mem _ hx)) hr
    exact key _ _ (fun _ h => h) h
/-- T is closed: each of T has a place, and what is behind that one is in T -/
def Cl (bh : Str → List Str) (fo : Tb) (T : List Str) : Prop := ∀ o ∈ T, ∃ w, getS fo o = some w ∧ ∀ x ∈ bh w, x ∈ T
/-- no search leaves a closed set -/
theorem aug_cl {bh : Str → List Str} {T : List Str} : ∀ (n : Nat) (u : Str) (s : Js), Cl bh s.fo T → (∀ x ∈ bh u, x ∈ T) → (aug bh n u s).1 = false
  | 0, u, s, _, _ => rfl
  | n + 1, u, s, hc, hu => by
    have key : ∀ (os : List Str) (s : Js), (∀ o ∈ os, o ∈ T) → Cl bh s.fo T → (augL (aug bh n) u os s).1 = false := by
      intro os
      induction os with
      | nil => intro s _ _; rfl
      | cons o os ih =>
        intro s hos hc
        have hos2 : ∀ x ∈ os, x ∈ T := fun x hx => hos x (List.mem_cons_of_mem _ hx)
        obtain ⟨w, hw, hb⟩ := hc o (hos o List.mem_cons_self)
        unfold augL
        rw [hw]
        dsimp only
        split
        · exact ih s hos2 hc
        · have hr := aug_cl n w ⟨s.fo, s.tr ++ [o]⟩ hc hb
          have a := ag_all bh n w ⟨s.fo, s.tr ++ [o]⟩
          split
          · rename_i s2 e
            rw [e] at hr
            cases hr
          · rename_i s2 e
            rw [e] at a
            exact ih s2 hos2 (by rw [a.fail rfl]; exact hc)
    exact key _ _ hu hc
theorem aug_keepT {bh : Str → List Str} {T : List Str} : ∀ (n : Nat) (u : Str) (s : Js), Cl bh s.fo T → ∀ o ∈ T, getS (aug bh n u s).2.fo o = getS s.fo o
  | 0, u, s, _, _, _ => rfl
  | n + 1, u, s, hc, t, ht => by
    have key : ∀ (os : List Str) (s : Js), Cl bh s.fo T → getS (augL (aug bh n) u os s).2.fo t = getS s.fo t := by
      intro os
      induction os with
      | nil => intro s _; rfl
      | cons o os ih =>
        intro s hc
        unfold augL
        split
        · exact ih s hc
        · split
          · rename_i hg
            refine getS_other fun z => ?_
            subst z
            obtain ⟨w, hw, _⟩ := hc t ht
            rw [hg] at hw
            cases hw
          · rename_i w hw
            have hk := aug_keepT n w ⟨s.fo, s.tr ++ [o]⟩ hc t ht
            have a := ag_all bh n w ⟨s.fo, s.tr ++ [o]⟩
            split
            · rename_i s2 e
              rw [e] at hk
              refine (getS_other fun z => ?_).trans hk
              subst z
              obtain ⟨w', hw', hb⟩ := hc t ht
              rw [hw] at hw'
              cases hw'
              have := aug_cl n w ⟨s.fo, s.tr ++ [t]⟩ hc hb
              rw [e] at this
              cases this
            · rename_i s2 e
              rw [e] at a hk
              rw [ih s2 (by rw [a.fail rfl]; exact hc)]
              exact hk
    exact key _ _ hc
/-- a search that fails has tried a closed set -/
theorem aug_fail {bh : Str → List Str} {L : List Str} (hb : ∀ l, ∀ x ∈ bh l, x ∈ L) : ∀ (n : Nat) (u : Str) (s s' : Js), s.tr.Nodup → (∀ x ∈ s.tr, x ∈ L) → L.length < n + s.tr.length → aug bh n u s = (false, s') →
    s'.tr.Nodup ∧ (∀ x ∈ s'.tr, x ∈ L) ∧ (∀ o ∈ bh u, o ∈ s'.tr) ∧ ∀ o ∈ s'.tr, ¬ o ∈ s.tr → ∃ w, getS s.fo o = some w ∧ ∀ x ∈ bh w, x ∈ s'.tr
  | 0, u, s, s', hd, hs, hl, h => by
    have len : s.tr.length ≤ L.length := by
      clear h hl
      generalize s.tr = xs at *
      have sub : ∀ (xs ys : List Str), xs.Nodup → (∀ x ∈ xs, x ∈ ys) → xs.length ≤ ys.length := by
        intro xs
        induction xs with
        | nil => intro ys _ _; exact Nat.zero_le _
        | cons x xs ih =>
          intro ys hn hm
          have h2 := List.nodup_cons.mp hn
          have hx := hm x List.mem_cons_self
          have := ih (ys.erase x) h2.2 fun y hy => (List.mem_erase_of_ne (fun z : y = x => h2.1 (by rw [← z]; exact hy))).mpr (hm y (List.mem_cons_of_mem _ hy))
          rw [List.length_erase_of_mem hx] at this
          have : 0 < ys.length := List.length_pos_of_mem hx
          rw [List.length_cons]
          omega
      exact sub xs L hd hs
    omega
  | n + 1, u, s, s', hd, hs, hl, h => by
    have key : ∀ (os : List Str) (s : Js), (∀ o ∈ os, o ∈ L) → s.tr.Nodup → (∀ x ∈ s.tr, x ∈ L) → L.length < n + 1 + s.tr.length → augL (aug bh n) u os s = (false, s') →
        s'.tr.Nodup ∧ (∀ x ∈ s'.tr, x ∈ L) ∧ (∀ x ∈ s.tr, x ∈ s'.tr) ∧ (∀ o ∈ os, o ∈ s'.tr) ∧ ∀ o ∈ s'.tr, ¬ o ∈ s.tr → ∃ w, getS s.fo o = some w ∧ ∀ x ∈ bh w, x ∈ s'.tr := by
      intro os
      induction os with
      | nil =>
        intro s _ hd hs _ h
        cases h
        exact ⟨hd, hs, fun _ h => h, fun _ h => (by cases h), fun o h1 h2 => absurd h1 h2⟩
      | cons o os ih =>
        intro s hos hd hs hl h
        have hos2 : ∀ x ∈ os, x ∈ L := fun x hx => hos x (List.mem_cons_of_mem _ hx)
        unfold augL at h
        split at h
        · rename_i hin
          obtain ⟨h1, h2, h3, h4, h5⟩ := ih s hos2 hd hs hl h
          refine ⟨h1, h2, h3, fun x hx => ?_, h5⟩
          rcases List.mem_cons.mp hx with rfl | hx
          · exact h3 _ hin
          · exact h4 x hx
        · rename_i hin
          split at h
          · cases h
          · rename_i w hw
            have a := ag_all bh n w ⟨s.fo, s.tr ++ [o]⟩
            split at h
            · cases h
            · rename_i s2 e
              have hd2 : (s.tr ++ [o]).Nodup := by
                rw [List.nodup_append]
                exact ⟨hd, List.nodup_cons.mpr ⟨List.not_mem_nil, List.nodup_nil⟩, fun x hx y hy z => hin (by rw [List.mem_singleton.mp hy] at z; rw [← z]; exact hx)⟩
              have hs2 : ∀ x ∈ s.tr ++ [o], x ∈ L := fun x hx => by
                rcases List.mem_append.mp hx with hx | hx
                · exact hs x hx
                · rw [List.mem_singleton.mp hx]; exact hos o List.mem_cons_self
              obtain ⟨r1, r2, r3, r4⟩ := aug_fail hb n w ⟨s.fo, s.tr ++ [o]⟩ s2 hd2 hs2 (by show L.length < n + (s.tr ++ [o]).length; rw [List.length_append, List.length_singleton]; omega) e
              rw [e] at a
              have hf : s2.fo = s.fo := a.fail rfl
              have hlen : s.tr.length ≤ s2.tr.length := by
                have sub : ∀ (xs ys : List Str), xs.Nodup → (∀ x ∈ xs, x ∈ ys) → xs.length ≤ ys.length := by
                  intro xs
                  induction xs with
                  | nil => intro ys _ _; exact Nat.zero_le _
                  | cons x xs ih =>
                    intro ys hn hm
                    have h2 := List.nodup_cons.mp hn
                    have hx := hm x List.mem_cons_self
                    have := ih (ys.erase x) h2.2 fun y hy => (List.mem_erase_of_ne (fun z : y = x => h2.1 (by rw [← z]; exact hy))).mpr (hm y (List.mem_cons_of_mem _ hy))
                    rw [List.length_erase_of_mem hx] at this
                    have : 0 < ys.length := List.length_pos_of_mem hx
                    rw [List.length_cons]
                    omega
                exact sub _ _ hd fun x hx => a.tr x (List.mem_append_left _ hx)
              obtain ⟨h1, h2, h3, h4, h5⟩ := ih s2 hos2 r1 r2 (by omega) h
              refine ⟨h1, h2, fun x hx => h3 x (a.tr x (List.mem_append_left _ hx)), fun x hx => ?_, fun x hx hxs => ?_⟩
              · rcases List.mem_cons.mp hx with rfl | hx
                · exact h3 _ (a.tr _ (List.mem_append_right _ (List.mem_singleton.mpr rfl)))
                · exact h4 x hx
              · by_cases hx2 : x ∈ s2.tr
                · by_cases hxo : x = o
                  · subst hxo
                    exact ⟨w, hw, fun y hy => h3 y (r3 y hy)⟩
                  · obtain ⟨w', q1, q2⟩ := r4 x hx2 fun z => (List.mem_append.mp z).elim hxs fun z => hxo (List.mem_singleton.mp z)
                    exact ⟨w', q1, fun y hy => h3 y (q2 y hy)⟩
                · obtain ⟨w', q1, q2⟩ := h5 x hx hx2
                  rw [hf] at q1
                  exact ⟨w', q1, q2⟩
    obtain ⟨h1, h2, h3, h4, h5⟩ := key _ _ (fun o ho => hb u o ho) hd hs hl h
    exact ⟨h1, h2, h4, h5⟩
end DL

/-! EV: as many lanes apart as chains are wanted (own work): plain lists. -/
namespace DL
open PySem L2 PySem.W
theorem nd_sub_len : ∀ {xs ys : List Str}, xs.Nodup → (∀ x ∈ xs, x ∈ ys) → xs.length ≤ ys.length
  | [], _, _, _ => Nat.zero_le _
  | x :: xs, ys, hn, hm => by
    have h2 := List.nodup_cons.mp hn
    have hx := hm x List.mem_cons_self
    have := nd_sub_len (ys := ys.erase x) h2.2 fun y hy => (List.mem_erase_of_ne (fun z : y = x => h2.1 (by rw [← z]; exact hy))).mpr (hm y (List.mem_cons_of_mem _ hy))
    rw [List.length_erase_of_mem hx] at this
    have : 0 < ys.length := List.length_pos_of_mem hx
    rw [List.length_cons]
    omega
/-- one lane joined, if it can be -/
def foStep (bh : Str → List Str) (n : Nat) (fo : Tb) (l : Str) : Tb := (aug bh n l ⟨fo, []⟩).2.fo
def foAll (bh : Str → List Str) (n : Nat) (ls : List Str) (fo : Tb) : Tb := ls.foldl (foStep bh n) fo
/-- joined so far: those of pre that have no place are shut in by a closed set -/
structure Jn (bh : Str → List Str) (L pre : List Str) (fo : Tb) : Prop where
  kn : (fo.map (·.1)).Nodup
  vn : (fo.map (·.2)).Nodup
  vs : ∀ v ∈ fo.map (·.2), v ∈ pre
  ed : ∀ p ∈ fo, p.1 ∈ bh p.2
  cl : ∃ T, Cl bh fo T ∧ (∀ x ∈ T, x ∈ L) ∧ ∀ u ∈ pre, ¬ u ∈ fo.map (·.2) → ∀ x ∈ bh u, x ∈ T
theorem Jn.step {bh : Str → List Str} {L pre : List Str} {fo : Tb} (h : Jn bh L pre fo) (hb : ∀ l, ∀ x ∈ bh l, x ∈ L) {n : Nat} (hn : L.length < n) {l : Str} (hl : ¬ l ∈ pre) : Jn bh L (pre ++ [l]) (foStep bh n fo l) := by
  obtain ⟨T, hT, hTL, hU⟩ := h.cl
  have a := ag_all bh n l ⟨fo, []⟩
  have ed := aug_edge (bh := bh) n l ⟨fo, []⟩ h.ed
  have kt := aug_keepT (T := T) n l ⟨fo, []⟩ hT
  unfold foStep
  generalize hr : aug bh n l ⟨fo, []⟩ = r at *
  obtain ⟨b, s'⟩ := r
  cases b with
  | false =>
    have hf : s'.fo = fo := a.fail rfl
    obtain ⟨h1, h2, h3, h4⟩ := aug_fail hb n l ⟨fo, []⟩ s' List.nodup_nil (fun _ z => (by cases z)) (by show L.length < n + 0; omega) hr
    show Jn bh L (pre ++ [l]) s'.fo
    rw [hf]
    refine ⟨h.kn, h.vn, fun v hv => List.mem_append_left _ (h.vs v hv), h.ed, T ++ s'.tr, fun o ho => ?_, fun x hx => ?_, fun u hu hnu x hx => ?_⟩
    · rcases List.mem_append.mp ho with ho | ho
      · obtain ⟨w, q1, q2⟩ := hT o ho
        exact ⟨w, q1, fun x hx => List.mem_append_left _ (q2 x hx)⟩
      · obtain ⟨w, q1, q2⟩ := h4 o ho (fun z => by cases z)
        exact ⟨w, q1, fun x hx => List.mem_append_right _ (q2 x hx)⟩
    · exact (List.mem_append.mp hx).elim (hTL x) (h2 x)
    · rcases List.mem_append.mp hu with hu | hu
      · exact List.mem_append_left _ (hU u hu hnu x hx)
      · rw [List.mem_singleton.mp hu] at hx
        exact List.mem_append_right _ (h3 x hx)
  | true =>
    have hv := aug_vals bh n l ⟨fo, []⟩ s' h.kn hr
    have hv : (s'.fo.map (·.2)).Perm (l :: fo.map (·.2)) := hv
    show Jn bh L (pre ++ [l]) s'.fo
    refine ⟨a.nd h.kn, ?_, fun v hm => ?_, ed, T, fun o ho => ?_, hTL, fun u hu hnu => ?_⟩
    · exact hv.nodup_iff.mpr (List.nodup_cons.mpr ⟨fun z => hl (h.vs l z), h.vn⟩)
    · rcases List.mem_cons.mp (hv.mem_iff.mp hm) with rfl | hm
      · exact List.mem_append_right _ (List.mem_singleton.mpr rfl)
      · exact List.mem_append_left _ (h.vs v hm)
    · obtain ⟨w, q1, q2⟩ := hT o ho
      exact ⟨w, (kt o ho).trans q1, q2⟩
    · rcases List.mem_append.mp hu with hu | hu
      · exact hU u hu fun z => hnu (hv.mem_iff.mpr (List.mem_cons_of_mem _ z))
      · rw [List.mem_singleton.mp hu] at hnu
        exact absurd (hv.mem_iff.mpr List.mem_cons_self) hnu
theorem Jn.all {bh : Str → List Str} {L : List Str} (hb : ∀ l, ∀ x ∈ bh l, x ∈ L) {n : Nat} (hn : L.length < n) : ∀ (ls pre : List Str) (fo : Tb), (pre ++ ls).Nodup → Jn bh L pre fo → Jn bh L (pre ++ ls) (foAll bh n ls fo)
  | [], pre, fo, _, h => by rw [List.append_nil]; exact h
  | l :: ls, pre, fo, hd, h => by
    have e : pre ++ l :: ls = (pre ++ [l]) ++ ls := by rw [List.append_assoc]; rfl
    rw [e] at hd ⊢
    have hl : ¬ l ∈ pre := fun z => (List.nodup_append.mp (List.nodup_append.mp hd).1).2.2 l z l (List.mem_singleton.mpr rfl) rfl
    exact Jn.all hb hn ls (pre ++ [l]) _ hd (h.step hb hn hl)
theorem Jn.ini {bh : Str → List Str} {L : List Str} : Jn bh L [] [] := ⟨List.nodup_nil, List.nodup_nil, fun _ h => (by cases h), fun _ h => (by cases h), [], fun _ h => (by cases h), fun _ h => (by cases h), fun _ h => (by cases h)⟩
/-- an order of lanes: strict -/
structure Od (bh : Str → List Str) (L : List Str) : Prop where
  sub : ∀ l, ∀ x ∈ bh l, x ∈ L
  irr : ∀ l, ¬ l ∈ bh l
  tra : ∀ {l x y}, x ∈ bh l → y ∈ bh x → y ∈ bh l

/-! lanes apart -/
def vOf (fo : Tb) (o : Str) : Str := (getS fo o).getD ""
/-- left ones so far and right ones: the first lefts have no place, then those of the rights -/
structure Ap (bh : Str → List Str) (L : List Str) (fo : Tb) (T U left right : List Str) : Prop where
  le : left = U ++ right.map (vOf fo)
  rn : right.Nodup
  rt : ∀ x ∈ right, x ∈ T
  rb : ∀ x ∈ right, ∃ l ∈ left, x ∈ bh l
/-- what is fixed: fo joins lanes, T closed -/
structure Fx0 (bh : Str → List Str) (L : List Str) (fo : Tb) (T U : List Str) : Prop where
  od : Od bh L
  ln : L.Nodup
  kn : (fo.map (·.1)).Nodup
  vn : (fo.map (·.2)).Nodup
  vs : ∀ v ∈ fo.map (·.2), v ∈ L
  ed : ∀ p ∈ fo, p.1 ∈ bh p.2
  tl : ∀ x ∈ T, x ∈ L
  cl : Cl bh fo T
  ue : U = L.filter fun l => !decide (l ∈ fo.map (·.2))
  ut : ∀ u ∈ U, ∀ x ∈ bh u, x ∈ T
section
variable {bh : Str → List Str} {L : List Str} {fo : Tb} {T U left right : List Str}
theorem vOf_at {o w : Str} (h : getS fo o = some w) : vOf fo o = w := by unfold vOf; rw [h]; rfl
theorem Fx0.at (f : Fx0 bh L fo T U) {o : Str} (h : o ∈ T) : getS fo o = some (vOf fo o) ∧ (o, vOf fo o) ∈ fo ∧ ∀ x ∈ bh (vOf fo o), x ∈ T := by
  obtain ⟨w, h1, h2⟩ := f.cl o h
  rw [vOf_at h1]
  exact ⟨h1, getS_some h1, h2⟩
theorem Ap.bT (f : Fx0 bh L fo T U) (a : Ap bh L fo T U left right) {l : Str} (hl : l ∈ left) : ∀ x ∈ bh l, x ∈ T := by
  rw [a.le] at hl
  rcases List.mem_append.mp hl with hl | hl
  · exact f.ut l hl
  · obtain ⟨o, ho, rfl⟩ := List.mem_map.mp hl
    exact (f.at (a.rt o ho)).2.2
theorem Ap.add (f : Fx0 bh L fo T U) (a : Ap bh L fo T U left right) {l o : Str} (hl : l ∈ left) (ho : o ∈ bh l) (hn : ¬ o ∈ right) : Ap bh L fo T U (left ++ [vOf fo o]) (right ++ [o]) := by
  refine ⟨by rw [a.le, List.map_append, List.append_assoc]; rfl, ?_, fun x hx => ?_, fun x hx => ?_⟩
  · rw [List.nodup_append]
    exact ⟨a.rn, List.nodup_cons.mpr ⟨List.not_mem_nil, List.nodup_nil⟩, fun x hx y hy z => hn (by rw [List.mem_singleton.mp hy] at z; rw [← z]; exact hx)⟩
  · rcases List.mem_append.mp hx with hx | hx
    · exact a.rt x hx
    · rw [List.mem_singleton.mp hx]; exact a.bT f hl o ho
  · rcases List.mem_append.mp hx with hx | hx
    · obtain ⟨l', h1, h2⟩ := a.rb x hx
      exact ⟨l', List.mem_append_left _ h1, h2⟩
    · rw [List.mem_singleton.mp hx]; exact ⟨l, List.mem_append_left _ hl, ho⟩
theorem inj_of_vn : ∀ {fo : Tb}, (fo.map (·.2)).Nodup → ∀ {o o' w : Str}, (o, w) ∈ fo → (o', w) ∈ fo → o = o'
  | [], _, _, _, _, h, _ => by cases h
  | p :: l, hn, o, o', w, h1, h2 => by
    have hn2 := List.nodup_cons.mp hn
    rcases List.mem_cons.mp h1 with e1 | h1
    · rcases List.mem_cons.mp h2 with e2 | h2
      · rw [← e1] at e2; cases e2; rfl
      · exact absurd (List.mem_map.mpr ⟨(o', w), h2, by rw [← e1]⟩ : p.2 ∈ l.map (·.2)) hn2.1
    · rcases List.mem_cons.mp h2 with e2 | h2
      · exact absurd (List.mem_map.mpr ⟨(o, w), h1, by rw [← e2]⟩ : p.2 ∈ l.map (·.2)) hn2.1
      · exact inj_of_vn hn2.2 h1 h2
theorem Ap.nd (f : Fx0 bh L fo T U) (a : Ap bh L fo T U left right) : left.Nodup ∧ ∀ x ∈ left, x ∈ L := by
  have hU : ∀ u ∈ U, u ∈ L ∧ ¬ u ∈ fo.map (·.2) := fun u hu => by
    rw [f.ue, List.mem_filter, Bool.not_eq_true', decide_eq_false_iff_not] at hu
    exact hu
  have hv : ∀ o ∈ right, (o, vOf fo o) ∈ fo := fun o ho => (f.at (a.rt o ho)).2.1
  rw [a.le]
  refine ⟨List.nodup_append.mpr ⟨by rw [f.ue]; exact f.ln.filter _, ?_, fun x hx y hy z => ?_⟩, fun x hx => ?_⟩
  · have key : ∀ rs : List Str, rs.Nodup → (∀ o ∈ rs, (o, vOf fo o) ∈ fo) → (rs.map (vOf fo)).Nodup := by
      intro rs
      induction rs with
      | nil => intro _ _; exact List.nodup_nil
      | cons r rs ih =>
        intro hn hm
        have h2 := List.nodup_cons.mp hn
        rw [List.map_cons, List.nodup_cons]
        refine ⟨fun z => ?_, ih h2.2 fun o ho => hm o (List.mem_cons_of_mem _ ho)⟩
        obtain ⟨o, ho, e⟩ := List.mem_map.mp z
        have m1 := hm o (List.mem_cons_of_mem _ ho)
        rw [e] at m1
        exact h2.1 (inj_of_vn f.vn m1 (hm r List.mem_cons_self) ▸ ho)
    exact key _ a.rn hv
  · obtain ⟨o, ho, rfl⟩ := List.mem_map.mp hy
    exact (hU x hx).2 (z ▸ List.mem_map.mpr ⟨_, hv o ho, rfl⟩)
  · rcases List.mem_append.mp hx with hx | hx
    · exact (hU x hx).1
    · obtain ⟨o, ho, rfl⟩ := List.mem_map.mp hx
      exact f.vs _ (List.mem_map.mpr ⟨_, hv o ho, rfl⟩)
/-- the lanes that are left and not right -/
def apL (L left right : List Str) : List Str := L.filter fun l => decide (l ∈ left) && !decide (l ∈ right)
theorem mem_apL {x : Str} : x ∈ apL L left right ↔ x ∈ L ∧ x ∈ left ∧ ¬ x ∈ right := by
  unfold apL
  rw [List.mem_filter, Bool.and_eq_true, decide_eq_true_eq, Bool.not_eq_true', decide_eq_false_iff_not]
theorem filt_len : ∀ (xs : List Str) (p : Str → Bool), (xs.filter p).length + (xs.filter fun x => !p x).length = xs.length
  | [], _ => rfl
  | x :: xs, p => by
    have := filt_len xs p
    rw [List.filter_cons, List.filter_cons]
    cases p x <;> simp <;> omega
/-- no two of them in the order; as many as have no place -/
theorem Ap.fin (f : Fx0 bh L fo T U) (a : Ap bh L fo T U left right) (hc : ∀ l ∈ left, ∀ x ∈ bh l, x ∈ right) :
    (∀ x ∈ apL L left right, ∀ y ∈ apL L left right, ¬ y ∈ bh x) ∧ (apL L left right).length = U.length := by
  obtain ⟨ln, ls⟩ := a.nd f
  refine ⟨fun x hx y hy z => (mem_apL.mp hy).2.2 (hc x (mem_apL.mp hx).2.1 y z), ?_⟩
  -- every right one is a left one
  have hrl : ∀ x ∈ right, x ∈ left := fun x hx => by
    have hxL := f.tl x (a.rt x hx)
    by_cases hu : x ∈ fo.map (·.2)
    · obtain ⟨p, hp, e⟩ := List.mem_map.mp hu
      have hpb := f.ed p hp
      have e : p.2 = x := e
      rw [e] at hpb
      obtain ⟨l, hl, hxl⟩ := a.rb x hx
      have hpr := hc l hl p.1 (f.od.tra hxl hpb)
      have hv : vOf fo p.1 = p.2 := vOf_at (getS_mem f.kn (show (p.1, p.2) ∈ fo from hp))
      rw [a.le]
      exact List.mem_append_right _ (List.mem_map.mpr ⟨p.1, hpr, hv.trans e⟩)
    · rw [a.le]
      exact List.mem_append_left _ (by rw [f.ue, List.mem_filter, Bool.not_eq_true', decide_eq_false_iff_not]; exact ⟨hxL, hu⟩)
  have e1 : (apL L left right).length = (left.filter fun l => !decide (l ∈ right)).length := by
    refine Nat.le_antisymm (nd_sub_len (f.ln.filter _) fun x hx => ?_) (nd_sub_len (ln.filter _) fun x hx => ?_)
    · have := mem_apL.mp hx
      exact List.mem_filter.mpr ⟨this.2.1, by rw [decide_eq_false this.2.2]; rfl⟩
    · obtain ⟨h1, h2⟩ := List.mem_filter.mp hx
      rw [Bool.not_eq_true', decide_eq_false_iff_not] at h2
      exact mem_apL.mpr ⟨ls x h1, h1, h2⟩
  have e2 : (left.filter fun l => decide (l ∈ right)).length = right.length := by
    refine Nat.le_antisymm (nd_sub_len (ln.filter _) fun x hx => of_decide_eq_true (List.mem_filter.mp hx).2) (nd_sub_len a.rn fun x hx => List.mem_filter.mpr ⟨hrl x hx, decide_eq_true hx⟩)
  have e3 := filt_len left fun l => decide (l ∈ right)
  have e4 : left.length = U.length + right.length := by rw [a.le, List.length_append, List.length_map]
  omega
end
end DL

/-! EW: chains of joined lanes (own work): plain lists. -/
namespace DL
open PySem L2 PySem.W
/-- the table turned about: who follows -/
def swS (fo : Tb) : Tb := fo.map fun p => (p.2, p.1)
theorem swS_mem {fo : Tb} {x y : Str} : (x, y) ∈ swS fo ↔ (y, x) ∈ fo := by
  unfold swS
  rw [List.mem_map]
  constructor
  · rintro ⟨p, hp, e⟩
    cases e
    exact hp
  · intro h
    exact ⟨(y, x), h, rfl⟩
/-- from a lane on, the followers -/
def chF (fo : Tb) : Nat → Str → List Str
  | 0, l => [l]
  | n + 1, l => match getS (swS fo) l with
    | none => [l]
    | some y => l :: chF fo n y
/-- fo joins lanes of L in order -/
structure Jo (bh : Str → List Str) (L : List Str) (fo : Tb) : Prop where
  od : Od bh L
  ln : L.Nodup
  kn : (fo.map (·.1)).Nodup
  vn : (fo.map (·.2)).Nodup
  vs : ∀ v ∈ fo.map (·.2), v ∈ L
  ed : ∀ p ∈ fo, p.1 ∈ bh p.2
section
variable {bh : Str → List Str} {L : List Str} {fo : Tb}
theorem Jo.nx (j : Jo bh L fo) {x y : Str} (h : getS (swS fo) x = some y) : (y, x) ∈ fo ∧ y ∈ bh x ∧ y ∈ L := by
  have h1 := swS_mem.mp (getS_some h)
  have h2 : y ∈ bh x := j.ed _ h1
  exact ⟨h1, h2, j.od.sub x y h2⟩
theorem Jo.ch (j : Jo bh L fo) : ∀ (n : Nat) (l : Str), l ∈ L → (∀ x ∈ chF fo n l, x ∈ L ∧ (x = l ∨ x ∈ bh l)) ∧ (chF fo n l).Pairwise (fun a b => b ∈ bh a)
  | 0, l, hl => ⟨fun x hx => by rw [List.mem_singleton.mp hx]; exact ⟨hl, .inl rfl⟩, List.pairwise_singleton _ _⟩
  | n + 1, l, hl => by
    rw [chF]
    cases h : getS (swS fo) l with
    | none => exact ⟨fun x hx => by rw [List.mem_singleton.mp hx]; exact ⟨hl, .inl rfl⟩, List.pairwise_singleton _ _⟩
    | some y =>
      obtain ⟨_, hy, hyL⟩ := j.nx h
      obtain ⟨h1, h2⟩ := j.ch n y hyL
      have h3 : ∀ x ∈ chF fo n y, x ∈ bh l := fun x hx => by
        rcases (h1 x hx).2 with rfl | z
        · exact hy
        · exact j.od.tra hy z
      refine ⟨fun x hx => ?_, List.pairwise_cons.mpr ⟨h3, h2⟩⟩
      rcases List.mem_cons.mp hx with rfl | hx
      · exact ⟨hl, .inl rfl⟩
      · exact ⟨(h1 x hx).1, .inr (h3 x hx)⟩
end
/-- a state of the search over L -/
structure JOk (L : List Str) (s : Js) : Prop where
  kn : (s.fo.map (·.1)).Nodup
  ks : ∀ x ∈ s.fo.map (·.1), x ∈ L
  vs : ∀ x ∈ s.fo.map (·.2), x ∈ L
  tn : s.tr.Nodup
  ts : ∀ x ∈ s.tr, x ∈ L
theorem JOk.put {L : List Str} {s : Js} (h : JOk L s) {o u : Str} (ho : o ∈ L) (hu : u ∈ L) : JOk L ⟨putS s.fo o u, s.tr⟩ := by
  refine ⟨putS_nd h.kn, fun x hx => ?_, fun x hx => ?_, h.tn, h.ts⟩
  · rcases putS_has.mp hx with rfl | hx
    · exact ho
    · exact h.ks x hx
  · obtain ⟨p, hp, rfl⟩ := List.mem_map.mp hx
    rcases putS_mem (x := p.1) (w := p.2) hp with ⟨_, e⟩ | hp
    · rw [e]; exact hu
    · exact h.vs _ (List.mem_map.mpr ⟨_, hp, rfl⟩)
theorem JOk.len {L : List Str} {s : Js} (h : JOk L s) : s.tr.length ≤ L.length ∧ s.fo.length ≤ L.length := by
  refine ⟨nd_sub_len h.tn h.ts, ?_⟩
  have := nd_sub_len h.kn h.ks
  rwa [List.length_map] at this
end DL

/-! EX: two own objects of one class and an operator (own work). -/
namespace DL
open PySem L2 PySem.W
/-! ### x op y, both of one class of the text -/
section
variable {X : Cx} {CX : CXT} {k : Nat} {C f : Addr} {fd : FuncData} {ps : List Str} {sp : Sp} {E : XK} {Cc : Ct}
/-- x op= y -/
structure Io2 (K : PySem.W.Frag) (C : Addr) (op : Operator) (f : Addr) : Prop where
  first : selfFirst K C = true
  sm : Sm K C (dunderI op.info.2) f
abbrev ipOwnB (C : Addr) (sp : Sp) (E : XK) : TIp := fun x y H Q => ∃ a dx fs, x = .ref a ∧ H a = some (.ins C dx fs) ∧ sp [x, y] H Q E
end
theorem io2_ok {K : PySem.W.Frag} {x : Str} {op : Operator} (h : fIo2 x op K = true) : Io2 K (He.ga K x) op (He.ma K (He.ga K x) (dunderI op.info.2)) := by
  unfold fIo2 at h
  rw [Bool.and_eq_true] at h
  exact ⟨h.1, sm_ok h.2⟩
/-! ### the same where what is raised may speak of the slots -/
section
variable {X : Cx} {k : Nat} {C f : Addr} {ps : List Str} {E : L2.St → XK} {Cc : Ct} {l r : Expr} {pos : Pos} {tl tr : TE}
end
/-! ### data -/
section
variable {K : PySem.W.Frag} {B F0 : Hp} {ro : Ro} {ka k1 k2 k3 kr : Cells} {ta : List (V × W)} {td te tf ty tx : TE} {De : Ends} {t u : TS} {w x y : W} {b b2 : Bool} {C : Addr} {fs gs : List (Str × D)} {d : D}
end
section
variable {K : PySem.W.Frag} {B F0 : Hp} {ro : Ro} {ka k1 k2 k3 kr : Cells} {ta : List (V × W)} {td te tf ty tx : TE} {De De' : Ends} {t u : TS} {w x y : W} {b b2 : Bool} {C C1 : Addr} {fs gs hs : List (Str × D)} {d : D}
end
end DL

/-! EY: patterns as trees, their words, the machine of atoms (own work). -/
namespace DL
open PySem L2 PySem.W
/-- a pattern: an atom (one of some names, or none of them), two behind one another, either, any number, one or none -/
inductive Tr where
  | at (any : Bool) (ns : List Str) | join (a b : Tr) | either (a b : Tr) | rep (a : Tr) | opt (a : Tr)
def kdS : Bool → Str
  | true => "any"
  | false => "none"
/-- as the program holds it (names a tuple), as the law holds it (names a list) -/
def Tr.d (law : Bool) : Tr → D
  | .at k ns => .tup [.str (kdS k), if law then .lst (stD ns) else .tup (stD ns)]
  | .join a b => .tup [.str "join", a.d law, b.d law]
  | .either a b => .tup [.str "either", a.d law, b.d law]
  | .rep a => .tup [.str "repeat", a.d law]
  | .opt a => .tup [.str "option", a.d law]
/-- nested operators -/
def Tr.dep : Tr → Nat
  | .at _ _ => 0
  | .join a b => max a.dep b.dep + 1
  | .either a b => max a.dep b.dep + 1
  | .rep a => a.dep + 1
  | .opt a => a.dep + 1
/-- an atom takes a name -/
def atB (p : Bool × List Str) (x : Str) : Bool := decide (x ∈ p.2) == p.1
/-- any number of words one behind another -/
inductive Str_ (P : List Str → Prop) : List Str → Prop where
  | nil : Str_ P []
  | snoc {u z : List Str} (h : Str_ P u) (hz : P z) : Str_ P (u ++ z)
/-- the machine: atoms, first and last ones, pairs, has it the empty word -/
structure Mc where
  at_ : List (Bool × List Str)
  fi : List Nat
  la : List Nat
  pr : List (Nat × Nat)
  op : Bool
def crN (xs ys : List Nat) : List (Nat × Nat) := xs.flatMap fun x => ys.map fun y => (x, y)
def mcT : Tr → Nat → Mc
  | .at k ns, s => ⟨[(k, ns)], [s], [s], [], false⟩
  | .rep a, s => let m := mcT a s; ⟨m.at_, m.fi, m.la, m.pr ++ crN m.la m.fi, true⟩
  | .opt a, s => let m := mcT a s; ⟨m.at_, m.fi, m.la, m.pr, true⟩
  | .either a b, s => let m := mcT a s; let n := mcT b (s + m.at_.length); ⟨m.at_ ++ n.at_, m.fi ++ n.fi, m.la ++ n.la, m.pr ++ n.pr, m.op || n.op⟩
  | .join a b, s => let m := mcT a s; let n := mcT b (s + m.at_.length)
    ⟨m.at_ ++ n.at_, if m.op then m.fi ++ n.fi else m.fi, if n.op then m.la ++ n.la else n.la, m.pr ++ n.pr ++ crN m.la n.fi, m.op && n.op⟩
/-- a way through the machine that reads w and ends at an atom -/
inductive Pth (T : Nat → Str → Bool) (fi : List Nat) (pr : List (Nat × Nat)) : List Str → Nat → Prop where
  | one {a : Nat} {x : Str} (h : a ∈ fi) (t : T a x = true) : Pth T fi pr [x] a
  | more {w : List Str} {a b : Nat} {x : Str} (h : Pth T fi pr w a) (hp : (a, b) ∈ pr) (t : T b x = true) : Pth T fi pr (w ++ [x]) b
theorem Pth.ne {T : Nat → Str → Bool} {fi : List Nat} {pr : List (Nat × Nat)} {w : List Str} {a : Nat} (h : Pth T fi pr w a) : w ≠ [] := by
  cases h <;> simp
/-- atoms within lo ≤ .. < hi -/
structure McR (m : Mc) (lo hi : Nat) : Prop where
  fi : ∀ a ∈ m.fi, lo ≤ a ∧ a < hi
  la : ∀ a ∈ m.la, lo ≤ a ∧ a < hi
  pr : ∀ p ∈ m.pr, (lo ≤ p.1 ∧ p.1 < hi) ∧ lo ≤ p.2 ∧ p.2 < hi
section
variable {T : Nat → Str → Bool} {fi fi2 fi' : List Nat} {pr pr2 pr' : List (Nat × Nat)} {w u v : List Str} {a c : Nat}
theorem Pth.mono (h : Pth T fi pr w c) (h1 : ∀ a ∈ fi, a ∈ fi') (h2 : ∀ p ∈ pr, p ∈ pr') : Pth T fi' pr' w c := by
  induction h with
  | one h t => exact .one (h1 _ h) t
  | more h hp t ih => exact .more ih (h2 _ hp) t
end
/-! ### the machine run -/
def tkM (m : Mc) (a : Nat) (x : Str) : Bool := match m.at_[a]? with
  | some p => atB p x
  | none => false
def behM (m : Mc) (ps : List Nat) (a : Nat) : Bool := ps.any fun p => decide ((p, a) ∈ m.pr)
def startM (m : Mc) (x : Str) : List Nat := m.fi.filter fun a => tkM m a x
def afterM (m : Mc) (ps : List Nat) (x : Str) : List Nat := (List.range m.at_.length).filter fun a => tkM m a x && behM m ps a
def doneM (m : Mc) (ps : List Nat) : Bool := ps.any fun p => decide (p ∈ m.la)
def runM (m : Mc) : List Str → List Nat
  | [] => []
  | x :: r => r.foldl (afterM m) (startM m x)
theorem run_snoc {m : Mc} {w : List Str} {x : Str} (h : w ≠ []) : runM m (w ++ [x]) = afterM m (runM m w) x := by
  cases w with
  | nil => exact absurd rfl h
  | cons y r =>
    show (r ++ [x]).foldl _ _ = _
    rw [List.foldl_append]
    rfl
end DL

/-! EZ: pairs of numbers as keys (own work). -/
namespace DL
open PySem L2 PySem.W
section
variable {K : PySem.W.Frag} {B F F0 : Hp} {ro : Ro} {ka k1 k2 k3 kr : Cells} {ta : List (V × W)} {sg : L2.St} {H H' : Hp} {te tf tg td ty tk tv : TE} {tt : TT} {w : W} {a : Addr} {b : Bool}
end
end DL

/-! FA: a list comprehension with two fors, by data, for the library's reading tLc2 (own work). -/
namespace DL
open PySem L2 PySem.W
section
variable {K : PySem.W.Frag} {B F F0 : Hp} {ro : Ro} {ka k1 k2 k3 kr : Cells} {ta : List (V × W)} {sg : L2.St} {H H' : Hp} {te : TE}
end
end DL

/-! FB: machines as data (own work). -/
namespace DL
open PySem L2 PySem.W
structure Fits (m : Mc) : Prop where
  a : m.at_.length ≤ 300
  f : m.fi.length ≤ 300
  l : m.la.length ≤ 300
  p : m.pr.length ≤ 90000
/-- a pattern small enough for its machine, and so are its parts -/
def Tr.sm : Tr → Prop
  | .at k ns => ns.length ≤ 1000
  | .join a b => a.sm ∧ b.sm ∧ ∀ s, Fits (mcT (.join a b) s)
  | .either a b => a.sm ∧ b.sm ∧ ∀ s, Fits (mcT (.either a b) s)
  | .rep a => a.sm ∧ ∀ s, Fits (mcT (.rep a) s)
  | .opt a => a.sm ∧ ∀ s, Fits (mcT (.opt a) s)
theorem Tr.sm.fits {t : Tr} (h : t.sm) (s : Nat) : Fits (mcT t s) := by
  cases t with
  | «at» k ns => exact ⟨by show 1 ≤ 300; decide, by show 1 ≤ 300; decide, by show 1 ≤ 300; decide, by show 0 ≤ 90000; decide⟩
  | join a b => exact h.2.2 s
  | either a b => exact h.2.2 s
  | rep a => exact h.2 s
  | opt a => exact h.2 s
/-! sizes -/
def Tr.ats : Tr → Nat
  | .at _ _ => 1
  | .join a b => a.ats + b.ats
  | .either a b => a.ats + b.ats
  | .rep a => a.ats
  | .opt a => a.ats
theorem mc_at_len : ∀ (t : Tr) (s : Nat), (mcT t s).at_.length = t.ats
  | .at _ _, _ => rfl
  | .rep a, s => mc_at_len a s
  | .opt a, s => mc_at_len a s
  | .either a b, s => by
    show (_ ++ _ : List _).length = _
    rw [List.length_append, mc_at_len a, mc_at_len b]
    rfl
  | .join a b, s => by
    show (_ ++ _ : List _).length = _
    rw [List.length_append, mc_at_len a, mc_at_len b]
    rfl
/-- all atoms hold few names -/
def Tr.few : Tr → Prop
  | .at _ ns => ns.length ≤ 1000
  | .join a b => a.few ∧ b.few
  | .either a b => a.few ∧ b.few
  | .rep a => a.few
  | .opt a => a.few
section
variable {K : PySem.W.Frag} {ro : Ro} {ka k1 k2 : Cells} {te tf : TE}
theorem En.freeze_t {B F0 : Hp} {ta : List (V × W)} {sg : L2.St} {H : Hp} {a : Addr} {ds : List (List Key × D)} (e : En K B F0 ro (ka ++ [(a, .dit ds)]) ta sg H) : En K B F0 ro ka ((.ref a, .val (.dit ds)) :: ta) sg H := by
  obtain ⟨F, g, e⟩ := e
  obtain ⟨fa, ba, xs, ha, rl⟩ := e.ce (a, .dit ds) (by simp)
  have gg : Gr B F (upd F a (.dT xs)) := ⟨Sub.new fa, fun b h1 h2 => by
    have ne : b ≠ a := fun q => h2 (q ▸ ba)
    rw [upd_ne ne]
    exact h1⟩
  have nd2 := e.nd
  rw [List.map_append, List.nodup_append] at nd2
  refine ⟨upd F a (.dT xs), g.trans gg, ⟨fun b u h => ?_, fun b u h => ?_, e.fr, nd2.1, fun q hq => ?_, e.ln, fun i w h => ?_, fun q hq => ?_⟩⟩
  · by_cases hb : b = a
    · subst hb; rw [upd_same] at h; cases h; rfl
    · rw [upd_ne hb] at h; exact e.nz b u h
  · by_cases hb : b = a
    · subst hb; rw [upd_same] at h; cases h; exact .inl ha
    · rw [upd_ne hb] at h; exact e.fz b u h
  · obtain ⟨h1, h2, h3⟩ := e.ce q (List.mem_append_left _ hq)
    have nq : q.1 ≠ a := fun z => nd2.2.2 q.1 (List.mem_map.mpr ⟨q, hq, rfl⟩) a (by simp) z
    exact ⟨by rw [upd_ne nq]; exact h1, h2, ndok_gr e.nz gg h3⟩
  · obtain ⟨v, h1, h2⟩ := e.sl i w h
    exact ⟨v, h1, wok_gr e.nz gg h2⟩
  · rcases List.mem_cons.mp hq with rfl | hq
    · exact ⟨a, xs, rfl, .inl upd_same, RpT.mono gg.sub.exz e.nz _ _ rl⟩
    · exact wok_gr e.nz gg (e.tm q hq)
theorem EvN.dit {ds : List (List Key × D)} (h : EvN K te ro ka (.dit ds) k1) : EvD K te ro ka (.val (.dit ds)) k1 := fun B F0 ta sg H Q e q => h B F0 ta sg H Q e fun a H1 e1 => q _ _ e1.freeze_t
end
section
variable {K : PySem.W.Frag} {ro : Ro} {ka k1 k2 : Cells} {te tf : TE} {y : W}
end
theorem EvI.ws {K : PySem.W.Frag} {wi : TI} {ro : Ro} {ka k1 : Cells} {ws ws' : List W} {C : Cells → Prop} (h : EvI K wi ro ka ws C k1) (e : ws = ws') : EvI K wi ro ka ws' C k1 := e ▸ h
end DL

/-! FC: where the words of a pattern end (own work). -/
namespace DL
open PySem L2 PySem.W
/-- steps one behind another -/
inductive Stp (R : Nat → Nat → Prop) (s : Nat) : Nat → Prop where
  | nil : Stp R s s
  | snoc {m k : Nat} (h : Stp R s m) (hr : R m k) : Stp R s k
end DL

/-! FD: {x: True for x in xs}, xs a list of tuples: the library's DictComp_goesN with the hand layer's state as what holds at each turn (own work). -/
namespace DL
open PySem L2 PySem.W PyProof.Rows
section
variable {X : Cx}
end
end DL
namespace DL
open PySem L2 PySem.W
section
variable {K : PySem.W.Frag} {B F F0 : Hp} {ro : Ro} {ka k1 k2 : Cells} {ta : List (V × W)} {sg : L2.St} {H H' : Hp} {te : TE}
end
end DL

/-! FE: the ends of a pattern's words, as the law counts them (own work). -/
namespace DL
open PySem L2 PySem.W
/-- the places not there yet, appended -/
def addN (acc : List Nat) (ps : List Nat) : List Nat := ps.foldl (fun acc p => if p ∈ acc then acc else acc ++ [p]) acc
theorem addN_cons (acc : List Nat) (p : Nat) (ps : List Nat) : addN acc (p :: ps) = addN (if p ∈ acc then acc else acc ++ [p]) ps := rfl
theorem addN_ext (ps : List Nat) : ∀ acc, ∃ r, addN acc ps = acc ++ r := by
  induction ps with
  | nil => exact fun acc => ⟨[], (List.append_nil _).symm⟩
  | cons p ps ih =>
    intro acc
    rw [addN_cons]
    split
    · exact ih acc
    · obtain ⟨r, e⟩ := ih (acc ++ [p])
      exact ⟨p :: r, by rw [e, List.append_assoc]; rfl⟩
theorem addN_mem {x : Nat} (ps : List Nat) : ∀ acc, x ∈ addN acc ps ↔ x ∈ acc ∨ x ∈ ps := by
  induction ps with
  | nil => exact fun acc => by simp [addN]
  | cons p ps ih =>
    intro acc
    rw [addN_cons, ih]
    split
    · rename_i h
      simp only [List.mem_cons]
      constructor
      · rintro (z | z)
        · exact .inl z
        · exact .inr (.inr z)
      · rintro (z | rfl | z)
        · exact .inl z
        · exact .inl h
        · exact .inr z
    · simp only [List.mem_append, List.mem_cons, List.not_mem_nil, or_false]
      rw [or_assoc]
theorem addN_nodup (ps : List Nat) : ∀ acc, acc.Nodup → (addN acc ps).Nodup := by
  induction ps with
  | nil => exact fun acc h => h
  | cons p ps ih =>
    intro acc h
    rw [addN_cons]
    split
    · exact ih acc h
    · rename_i hp
      refine ih _ (List.nodup_append.mpr ⟨h, by simp, fun a ha b hb => ?_⟩)
      rw [List.mem_singleton.mp hb]
      exact fun z => hp (z ▸ ha)
structure RepI (f : Nat → List Nat) (L s n : Nat) (found : List Nat) (i : Nat) : Prop where
  nd : found.Nodup
  le : ∀ x ∈ found, x ≤ L
  st : s ∈ found
  sound : ∀ x ∈ found, Stp (fun m k => k ∈ f m) s x
  shut : ∀ j x, j < i → found[j]? = some x → ∀ k ∈ f x, k ∈ found
  at_ : i ≤ found.length
  fuel : L + 2 ≤ n + i
theorem RepI.next {f : Nat → List Nat} {L s n : Nat} {found : List Nat} {i p : Nat} (bd : ∀ m ≤ L, ∀ k ∈ f m, k ≤ L) (h : RepI f L s (n + 1) found i) (hp : found[i]? = some p) : RepI f L s n (addN found (f p)) (i + 1) := by
  have mp := List.mem_of_getElem? hp
  obtain ⟨r, er⟩ := addN_ext (f p) found
  have lt := (List.getElem?_eq_some_iff.mp hp).1
  refine ⟨addN_nodup _ _ h.nd, fun x hx => ?_, (addN_mem _ _).mpr (.inl h.st), fun x hx => ?_, fun j x hj hx k hk => ?_, ?_, by have := h.fuel; omega⟩
  · rcases (addN_mem _ _).mp hx with z | z
    · exact h.le x z
    · exact bd p (h.le p mp) x z
  · rcases (addN_mem _ _).mp hx with z | z
    · exact h.sound x z
    · exact .snoc (h.sound p mp) z
  · by_cases e : j = i
    · subst e
      rw [er, List.getElem?_append_left lt, hp] at hx
      cases hx
      exact (addN_mem _ _).mpr (.inr hk)
    · have lj : j < i := by omega
      rw [er, List.getElem?_append_left (by omega)] at hx
      exact (addN_mem _ _).mpr (.inl (h.shut j x lj hx k hk))
  · rw [er, List.length_append]
    omega
theorem Stp.imp {R S : Nat → Nat → Prop} {s L : Nat} (hs : s ≤ L) (hR : ∀ m k, m ≤ L → R m k → S m k ∧ k ≤ L) {k : Nat} (h : Stp R s k) : Stp S s k ∧ k ≤ L := by
  induction h with
  | nil => exact ⟨.nil, hs⟩
  | snoc _ hr ih =>
    obtain ⟨h1, h2⟩ := hR _ _ ih.2 hr
    exact ⟨.snoc ih.1 h1, h2⟩
end DL

/-! FF: defs with a star parameter, by contracts about the tuple (own work). -/
namespace DL
open PySem L2 PySem.W PyProof.Rows
/-- a contract about the tuple of all arguments, told by the arguments -/
def CtV (C : Ct) : Ct := fun ws ka out => ∃ ds : List D, ws = ds.map W.val ∧ ds.length ≤ 100000 ∧ C [.val (.tup ds)] ka out
/-- the def at f, which takes any number of arguments, keeps C of their tuple -/
def FnV (P : Program) (w : World) (K : PySem.W.Frag) (mg : Str → Option Value) (base : Heap) (k : Nat) (f : Addr) (C : Ct) : Prop := FnR P w K mg base (L2.CX P w) k f (spC K (CtV C))
section
variable {P : Program} {w : World} {K : PySem.W.Frag} {mg : Str → Option Value} {base : Heap} {f : Addr} {fd : FuncData} {x qual pv : Str} {params : Arguments} {body : List Stmt} {scope : Scope} {N : List Str} {k j : Nat} {C : Ct}
theorem FnV.up (F : FnV P w K mg base j f C) (h : j ≤ k) : FnV P w K mg base k f C := FnR.mono F h
end
section
variable {X : Cx} {k : Nat} {f : Addr} {C : Ct} {E : XK} {x : Str} {p pos : Pos} {e : Expr} {es : List Expr} {t : TA}
end
/-- trees as the law draws them: at each end one to three names, or none behind "none" -/
def niceT : Tr → Prop
  | .at k ns => ns.length ≤ 3 ∧ (k = true → ns ≠ []) ∧ ∀ n ∈ ns, isNm n = true
  | .join a b => niceT a ∧ niceT b
  | .either a b => niceT a ∧ niceT b
  | .rep a => niceT a
  | .opt a => niceT a
end DL

/-! FG: patterns turned about and multiplied (own work). -/
namespace DL
open PySem L2 PySem.W
end DL
namespace DL
open PySem L2 PySem.W
end DL

/-! FH: errors without fields handed on (own work). -/
namespace DL
open PySem L2 PySem.W
section
variable {K : PySem.W.Frag} {B F0 : Hp} {ro : Ro} {ka k1 k2 : Cells} {ta : List (V × W)} {te tf : TE} {tr : TA} {De : Ends} {u : TS} {C1 : Addr} {gs : List (Str × D)} {out : Oc} {E : XK} {w : W}
end
end DL

/-! FI: `is not` between truth values (own work). -/
namespace DL
open PySem L2 PySem.W
section
variable {K : PySem.W.Frag} {ro : Ro} {ka k1 k2 : Cells} {te tf : TE}
end
end DL

/-! FJ: dicts whose keys are tuples of any depth: read, asked, written (own work). -/
namespace DL
open PySem L2 PySem.W PyProof.Rows

/-! ### rows -/
/-- keys and values alone -/
def rowN {α : Type} (xs : List (NestedKey × Addr × α)) : List (NestedKey × α) := xs.map fun x => (x.1, x.2.2)
def setA {α : Type} (k : NestedKey) (v : α) (x : NestedKey × Addr × α) : NestedKey × Addr × α := if x.1 = k then (x.1, x.2.1, v) else x
/-- a key that stands keeps its place and its own thing -/
def putA {α : Type} (xs : List (NestedKey × Addr × α)) (k : NestedKey) (b : Addr) (v : α) : List (NestedKey × Addr × α) :=
  if hasT (rowN xs) k = true then xs.map (setA k v) else xs ++ [(k, b, v)]
section
variable {α : Type}
end
/-- a row of values as they are seen, as they lie -/
abbrev SeesN : List (NestedKey × Addr × V) → List (NestedKey × Addr × Value) → Prop := Paired fun p q => p.1 = q.1 ∧ p.2.1 = q.2.1 ∧ RelV p.2.2 q.2.2
theorem SeesN.has {xs : List (NestedKey × Addr × V)} {qs : List (NestedKey × Addr × Value)} (r : SeesN xs qs) (k : NestedKey) :
    (getT (rowN xs) k = none ∧ hasT (rowN xs) k = false ∧ atKey qs k = none) ∨ ∃ v p, getT (rowN xs) k = some v ∧ hasT (rowN xs) k = true ∧ atKey qs k = some p ∧ RelV v p.2 := by
  unfold SeesN at r
  induction r with
  | nil => exact .inl ⟨rfl, rfl, rfl⟩
  | @cons p q ps qs h t ih =>
    obtain ⟨h1, h2, h3⟩ := h
    by_cases e : p.1 = k
    · refine .inr ⟨p.2.2, q.2, ?_, ?_, ?_, h3⟩
      · show getT ((p.1, p.2.2) :: rowN ps) k = _
        simp [getT, e]
      · show hasT ((p.1, p.2.2) :: rowN ps) k = _
        simp [hasT, e]
      · have e2 : q.1 = k := h1.symm.trans e
        simp [atKey, e2]
    · have e2 : ¬ q.1 = k := fun z => e (h1.trans z)
      have a1 : getT (rowN (p :: ps)) k = getT (rowN ps) k := by
        show getT ((p.1, p.2.2) :: rowN ps) k = _
        simp [getT, e]
      have a2 : hasT (rowN (p :: ps)) k = hasT (rowN ps) k := by
        show hasT ((p.1, p.2.2) :: rowN ps) k = _
        simp [hasT, e]
      have a3 : atKey (q :: qs) k = atKey qs k := by simp [atKey, e2]
      rw [a1, a2, a3]
      exact ih
theorem SeesN.put {xs : List (NestedKey × Addr × V)} {qs : List (NestedKey × Addr × Value)} (r : SeesN xs qs) (k : NestedKey) (b : Addr) {v : V} {u : Value} (rv : RelV v u) : SeesN (putA xs k b v) (storedH qs k b u) := by
  have hh : hasT (rowN xs) k = (atKey qs k).isSome := by
    rcases r.has k with ⟨_, h, h2⟩ | ⟨_, _, _, h, h2, _⟩ <;> rw [h, h2] <;> rfl
  unfold putA storedH
  rw [hh]
  split
  · unfold SeesN at r
    clear hh
    rename_i hx
    clear hx
    induction r with
    | nil => exact .nil
    | @cons p q ps qs h t ih =>
      obtain ⟨h1, h2, h3⟩ := h
      refine .cons ?_ ih
      unfold putAt setA
      by_cases e : p.1 = k
      · rw [if_pos e, if_pos (h1.symm.trans e)]
        exact ⟨h1, h2, rv⟩
      · rw [if_neg e, if_neg fun z => e (h1.trans z)]
        exact ⟨h1, h2, h3⟩
  · exact Paired.snoc r ⟨rfl, rfl, rv⟩

/-- all its keys stand where they are told -/
def NAt (K : PySem.W.Frag) (H : Hp) (w : World) (a : Addr) (xs : List (NestedKey × Addr × V)) : Prop := Rd H a (DnO w a xs) ∧ ∀ x ∈ xs, RkN K H x.1 (.ref x.2.1) ∧ x.1.depth ≤ 8
section
variable {X : Cx} {pins : List (Addr × Obj)} {σ : L2.St} {H : Hp} {s : Shared} {a b : Addr} {xs : List (NestedKey × Addr × V)}
mutual
theorem key_is (I : L2.Inv X pins σ H s) : ∀ (k : NestedKey) (v : V) (u : Value), RkN X.K H k v → RelV v u → NestedIs s.heap k u
  | .none, _, _, h, r => by
    subst h
    cases (show _ = Value.none from r)
    exact .none
  | .num i, _, _, h, r => by
    subst h
    obtain ⟨t, rfl⟩ := (show ∃ t, _ = Value.int i t from r)
    exact .int i t
  | .text x, _, _, h, r => by
    subst h
    obtain ⟨t, rfl⟩ := (show ∃ t, _ = Value.str x t from r)
    exact .text x t
  | .tup ks, _, _, h, r => by
    obtain ⟨c, ys, rfl, h1, h2⟩ := h
    cases (show _ = Value.ref c from r)
    obtain ⟨its, rel, ⟨o, ho, hc, n, hd⟩, _⟩ := I.tuple h1
    exact .tup ho hc hd (by simpa using keys_are I ks ys its h2 rel)
theorem keys_are (I : L2.Inv X pins σ H s) : ∀ (ks : List NestedKey) (vs : List V) (us : List Value), RkL X.K H ks vs → Vals vs us → NestedAll s.heap ks us
  | [], _, us, h, r => by
    subst h
    cases r
    exact .nil
  | k :: ks, _, us, h, r => by
    obtain ⟨x, ys, rfl, h1, h2⟩ := h
    cases r with
    | cons r1 r2 => exact .cons (key_is I k x _ h1 r1) (keys_are I ks ys _ h2 r2)
end
end

section
variable {X : Cx} {o i value : Expr} {pos pos' : Pos} {td ty tv tk : TE}
end
end DL

/-! FK: dicts with nested keys, by data (own work). -/
namespace DL
open PySem L2 PySem.W

/-! ### keys as data -/
mutual
def nkD : NestedKey → D
  | .none => .non
  | .num i => .int i
  | .text s => .str s
  | .tup ks => .tup (nkDs ks)
def nkDs : List NestedKey → List D
  | [] => []
  | k :: ks => nkD k :: nkDs ks
end
section
variable {K : PySem.W.Frag} {F : Hp}
mutual
theorem rk_iff : ∀ (k : NestedKey) (v : V), RkN K F k v ↔ Rp K F (nkD k) v
  | .none, _ => Iff.rfl
  | .num _, _ => Iff.rfl
  | .text _, _ => Iff.rfl
  | .tup ks, v => ⟨fun ⟨a, xs, e, h1, h2⟩ => ⟨a, xs, e, h1, (rks_iff ks xs).mp h2⟩, fun ⟨a, xs, e, h1, h2⟩ => ⟨a, xs, e, h1, (rks_iff ks xs).mpr h2⟩⟩
theorem rks_iff : ∀ (ks : List NestedKey) (vs : List V), RkL K F ks vs ↔ RpL K F (nkDs ks) vs
  | [], _ => Iff.rfl
  | k :: ks, vs => ⟨fun ⟨x, ys, e, h1, h2⟩ => ⟨x, ys, e, (rk_iff k x).mp h1, (rks_iff ks ys).mp h2⟩, fun ⟨x, ys, e, h1, h2⟩ => ⟨x, ys, e, (rk_iff k x).mpr h1, (rks_iff ks ys).mpr h2⟩⟩
end
end
/-! ### rows -/
section
variable {K : PySem.W.Frag} {F : Hp}
theorem rpn_keys : ∀ {ds : List (NestedKey × D)} {xs : List (NestedKey × Addr × V)}, RpN K F ds xs → ∀ x ∈ xs, RkN K F x.1 (.ref x.2.1) ∧ x.1.depth ≤ 8
  | [], xs, h => by rw [show xs = [] from h]; exact fun _ hx => nomatch hx
  | (k, d) :: ds, xs, h => by
    obtain ⟨b, x, ys, rfl, h0, h1, h2⟩ := h
    intro y hy
    rcases List.mem_cons.mp hy with rfl | hy
    · exact h0
    · exact rpn_keys h2 y hy
end

/-! ### read and written -/
/-- w is a dict of ds with nested keys; b: viewed -/
inductive Dn (wd : World) (ka : Cells) : W → List (NestedKey × D) → Bool → Prop where
  | v {ds : List (NestedKey × D)} : Dn wd ka (.val (.din wd ds)) ds false
  | w {ds : List (NestedKey × D)} : Dn wd ka (.vw (.din wd ds)) ds true
  | ce {a : Addr} {ds : List (NestedKey × D)} (j : Nat) (h : ka[j]? = some (a, .din wd ds)) : Dn wd ka (.val (.adr a)) ds false
section
variable {wd : World} {K : PySem.W.Frag} {B B' F F' F0 : Hp} {ro ro' : Ro} {ka k1 k2 k3 kr : Cells} {ta : List (V × W)} {sg sg' : L2.St} {H H' : Hp} {te tf tg td ty tk tv : TE} {w x y z : W} {n m : Nd} {a : Addr} {b : Bool} {De : Ends} {t u : TS} {ds : List (NestedKey × D)} {k : NestedKey} {ks : List NestedKey} {d : D}
theorem Dn.get {v : V} (l : Dn wd ka w ds b) (e : EnF K B F ro ka ta sg H) (h : WOk K B F v w) : ∃ a xs, v = .ref a ∧ NAt K H wd a xs ∧ RpN K (if b then uni B F else F) ds xs := by
  cases l with
  | v =>
    obtain ⟨a, xs, rfl, h1, h2⟩ := h
    exact ⟨a, xs, rfl, ⟨e.fz.rd e.nz h1, fun x hx => ⟨RkN.mono e.fz e.nz _ _ (rpn_keys h2 x hx).1, (rpn_keys h2 x hx).2⟩⟩, h2⟩
  | w =>
    obtain ⟨a, xs, rfl, h1, h2⟩ := h
    have z := uni_exz e.fz e.fr
    have nz := uni_nz (B := B) e.nz
    exact ⟨a, xs, rfl, ⟨z.rd nz h1, fun x hx => ⟨RkN.mono z nz _ _ (rpn_keys h2 x hx).1, (rpn_keys h2 x hx).2⟩⟩, h2⟩
  | ce j hj =>
    obtain rfl : v = .ref _ := h
    obtain ⟨_, _, xs, h1, h2⟩ := e.ce _ (List.mem_of_getElem? hj)
    exact ⟨_, xs, rfl, ⟨.inl h1, fun x hx => ⟨RkN.mono e.fz e.nz _ _ (rpn_keys h2 x hx).1, (rpn_keys h2 x hx).2⟩⟩, h2⟩
/-- an expression that makes a new cell, as one that comes back with its place -/
theorem EvN.adr (h : EvN K te ro ka n k1) : EvR K te ro ka fun w k => ∃ c, w = .val (.adr c) ∧ k = k1 ++ [(c, n)] := fun B F0 ta sg H Q e q =>
  h B F0 ta sg H Q e fun c H' e1 => q _ _ _ _ ⟨c, rfl, rfl⟩ (e1.tmA c)
/-- a dict of nested keys, frozen -/
theorem En.freeze_n (e : En K B F0 ro (ka ++ [(a, .din wd ds)]) ta sg H) : En K B F0 ro ka ((.ref a, .val (.din wd ds)) :: ta) sg H := by
  obtain ⟨F, g, e⟩ := e
  obtain ⟨fa, ba, xs, ha, rl⟩ := e.ce (a, .din wd ds) (by simp)
  have gg : Gr B F (upd F a (DnO wd a xs)) := ⟨Sub.new fa, fun b h1 h2 => by
    have ne : b ≠ a := fun q => h2 (q ▸ ba)
    rw [upd_ne ne]
    exact h1⟩
  have nd2 := e.nd
  rw [List.map_append, List.nodup_append] at nd2
  refine ⟨_, g.trans gg, ⟨fun b u h => ?_, fun b u h => ?_, e.fr, nd2.1, fun q hq => ?_, e.ln, fun i w h => ?_, fun q hq => ?_⟩⟩
  · by_cases hb : b = a
    · subst hb; rw [upd_same] at h; cases h; rfl
    · rw [upd_ne hb] at h; exact e.nz b u h
  · by_cases hb : b = a
    · subst hb; rw [upd_same] at h; cases h; exact .inl ha
    · rw [upd_ne hb] at h; exact e.fz b u h
  · obtain ⟨h1, h2, h3⟩ := e.ce q (List.mem_append_left _ hq)
    have nq : q.1 ≠ a := fun z => nd2.2.2 q.1 (List.mem_map.mpr ⟨q, hq, rfl⟩) a (by simp) z
    exact ⟨by rw [upd_ne nq]; exact h1, h2, ndok_gr e.nz gg h3⟩
  · obtain ⟨v, h1, h2⟩ := e.sl i w h
    exact ⟨v, h1, wok_gr e.nz gg h2⟩
  · rcases List.mem_cons.mp hq with rfl | hq
    · exact ⟨a, xs, rfl, .inl upd_same, RpN.mono gg.sub.exz e.nz _ _ rl⟩
    · exact wok_gr e.nz gg (e.tm q hq)
theorem EvN.din (h : EvN K te ro ka (.din wd ds) k1) : EvD K te ro ka (.val (.din wd ds)) k1 := fun B F0 ta sg H Q e q => h B F0 ta sg H Q e fun a H1 e1 => q _ _ e1.freeze_n
end
end DL

/-! FL: searches by levels in plain Lean; sub-rows; what a machine has begun (own work). -/
namespace DL
open PySem L2 PySem.W

/-! ### sub-rows -/
def subs {α : Type} : List α → List (List α)
  | [] => [[]]
  | x :: xs => subs xs ++ (subs xs).map (x :: ·)
theorem subs_len {α : Type} : ∀ xs : List α, (subs xs).length = 2 ^ xs.length
  | [] => rfl
  | x :: xs => by
    rw [subs, List.length_append, List.length_map, subs_len xs, List.length_cons, Nat.pow_succ]
    omega
theorem flt_subs {α : Type} (p : α → Bool) : ∀ xs : List α, xs.filter p ∈ subs xs
  | [] => List.mem_singleton.mpr rfl
  | x :: xs => by
    rw [subs, List.filter_cons]
    split
    · exact List.mem_append_right _ (List.mem_map.mpr ⟨_, flt_subs p xs, rfl⟩)
    · exact List.mem_append_left _ (flt_subs p xs)
/-- different things out of a row are no more than it -/
theorem nd_sub {α : Type} [DecidableEq α] : ∀ {xs ys : List α}, xs.Nodup → (∀ x ∈ xs, x ∈ ys) → xs.length ≤ ys.length
  | [], _, _, _ => Nat.zero_le _
  | x :: xs, ys, hn, h => by
    have hx := h x List.mem_cons_self
    obtain ⟨h1, h2⟩ := List.nodup_cons.mp hn
    have := nd_sub (ys := ys.erase x) h2 fun y hy => (List.mem_erase_of_ne fun e => by subst e; exact h1 hy).mpr (h y (List.mem_cons_of_mem _ hy))
    rw [List.length_erase_of_mem hx] at this
    have := List.length_pos_of_mem hx
    rw [List.length_cons]
    omega

/-! ### ways along edges that have names -/
section
variable {α : Type} [DecidableEq α]
/-- from s by these names to v -/
inductive Pt (sc : α → List (Str × α)) (s : α) : List Str → α → Prop where
  | nil : Pt sc s [] s
  | snoc {ls : List Str} {x : α} {e : Str × α} (h : Pt sc s ls x) (he : e ∈ sc x) : Pt sc s (ls ++ [e.1]) e.2
/-- a search: the things met, each by a way; the first `at` are done, of the next the edges E -/
structure BIn (sc : α → List (Str × α)) (s : α) (at_ : Nat) (E : List (Str × α)) (qs : List (α × List Str)) : Prop where
  nd : (qs.map (·.1)).Nodup
  ini : qs[0]? = some (s, [])
  pt : ∀ q ∈ qs, Pt sc s q.2 q.1
  mono : ∀ (i j : Nat) (p q : α × List Str), i ≤ j → qs[i]? = some p → qs[j]? = some q → p.2.length ≤ q.2.length
  lev : ∀ c, qs[at_]? = some c → ∀ q ∈ qs, q.2.length ≤ c.2.length + 1
  cl : ∀ (i : Nat) (c : α × List Str), i < at_ → qs[i]? = some c → ∀ e ∈ sc c.1, ∃ q ∈ qs, q.1 = e.2 ∧ q.2.length ≤ c.2.length + 1
  cE : ∀ c, qs[at_]? = some c → ∀ e ∈ E, ∃ q ∈ qs, q.1 = e.2 ∧ q.2.length ≤ c.2.length + 1
variable {sc : α → List (Str × α)} {s : α} {at_ : Nat} {E : List (Str × α)} {qs : List (α × List Str)}
theorem BIn.start (sc : α → List (Str × α)) (s : α) : BIn sc s 0 [] [(s, [])] where
  nd := by simp
  ini := rfl
  pt := fun q hq => by
    rw [List.mem_singleton.mp hq]
    exact .nil
  mono := fun i j p q _ hp hq => by
    have h1 := List.mem_of_getElem? hp
    have h2 := List.mem_of_getElem? hq
    rw [List.mem_singleton.mp h1, List.mem_singleton.mp h2]
    exact Nat.le_refl _
  lev := fun c hc q hq => by
    rw [List.mem_singleton.mp hq]
    exact Nat.zero_le _
  cl := fun i c h => by omega
  cE := fun c _ e he => nomatch he
/-- an edge to what was met -/
theorem BIn.old (b : BIn sc s at_ E qs) {e : Str × α} (h : e.2 ∈ qs.map (·.1)) : BIn sc s at_ (E ++ [e]) qs := { b with
  cE := fun c hc e' he => by
    rcases List.mem_append.mp he with he | he
    · exact b.cE c hc e' he
    · rw [List.mem_singleton.mp he]
      obtain ⟨q, hq, e1⟩ := List.mem_map.mp h
      exact ⟨q, hq, e1, b.lev c hc q hq⟩ }
/-- an edge to a new thing -/
theorem BIn.new (b : BIn sc s at_ E qs) {c : α × List Str} (hc : qs[at_]? = some c) {e : Str × α} (he : e ∈ sc c.1) (h : e.2 ∉ qs.map (·.1)) : BIn sc s at_ (E ++ [e]) (qs ++ [(e.2, c.2 ++ [e.1])]) := by
  have hlt : at_ < qs.length := (List.getElem?_eq_some_iff.mp hc).1
  have old : ∀ {i : Nat} {x : α × List Str}, i < qs.length → (qs ++ [(e.2, c.2 ++ [e.1])])[i]? = some x → qs[i]? = some x := fun hi hx => by rwa [List.getElem?_append_left hi] at hx
  have hc' : ∀ x, (qs ++ [(e.2, c.2 ++ [e.1])])[at_]? = some x → x = c := fun x hx => by
    have := old hlt hx
    rw [hc] at this
    exact (Option.some.inj this).symm
  refine ⟨?_, ?_, fun q hq => ?_, fun i j p q hij hp hq => ?_, fun x hx q hq => ?_, fun i x hi hx e' he' => ?_, fun x hx e' he' => ?_⟩
  · rw [List.map_append, List.nodup_append]
    exact ⟨b.nd, by simp, fun x hx y hy => by
      rw [List.map_cons, List.map_nil, List.mem_singleton] at hy
      rintro rfl
      rw [hy] at hx
      exact h hx⟩
  · rw [List.getElem?_append_left (Nat.lt_of_le_of_lt (Nat.zero_le _) hlt)]
    exact b.ini
  · rcases List.mem_append.mp hq with hq | hq
    · exact b.pt q hq
    · rw [List.mem_singleton.mp hq]
      exact .snoc (b.pt c (List.mem_of_getElem? hc)) he
  · have key : ∀ {k : Nat} {x : α × List Str}, (qs ++ [(e.2, c.2 ++ [e.1])])[k]? = some x → (k < qs.length ∧ qs[k]? = some x) ∨ (k = qs.length ∧ x = (e.2, c.2 ++ [e.1])) := fun {k x} hx => by
      by_cases hk : k < qs.length
      · exact .inl ⟨hk, old hk hx⟩
      · have hk2 := (List.getElem?_eq_some_iff.mp hx).1
        rw [List.length_append, List.length_singleton] at hk2
        have hk3 : k = qs.length := by omega
        subst hk3
        rw [List.getElem?_append_right (Nat.le_refl _), Nat.sub_self] at hx
        exact .inr ⟨rfl, (Option.some.inj hx).symm⟩
    rcases key hp with ⟨h1, hp⟩ | ⟨h1, rfl⟩ <;> rcases key hq with ⟨h2, hq⟩ | ⟨h2, rfl⟩
    · exact b.mono i j p q hij hp hq
    · have := b.lev c hc p (List.mem_of_getElem? hp)
      rw [List.length_append, List.length_singleton]
      exact this
    · omega
    · exact Nat.le_refl _
  · rw [hc' x hx]
    rcases List.mem_append.mp hq with hq | hq
    · exact b.lev c hc q hq
    · rw [List.mem_singleton.mp hq, List.length_append]
      exact Nat.le_refl _
  · obtain ⟨q, hq, r⟩ := b.cl i x hi (old (by omega) hx) e' he'
    exact ⟨q, List.mem_append_left _ hq, r⟩
  · rw [hc' x hx]
    rcases List.mem_append.mp he' with he' | he'
    · obtain ⟨q, hq, r⟩ := b.cE c hc e' he'
      exact ⟨q, List.mem_append_left _ hq, r⟩
    · rw [List.mem_singleton.mp he']
      exact ⟨_, List.mem_append_right _ (List.mem_singleton.mpr rfl), rfl, by rw [List.length_append]; exact Nat.le_refl _⟩
/-- all edges of a thing are done -/
theorem BIn.next (b : BIn sc s at_ E qs) (hE : ∀ c, qs[at_]? = some c → ∀ e ∈ sc c.1, e ∈ E) (hlt : at_ < qs.length) : BIn sc s (at_ + 1) [] qs := by
  obtain ⟨c0, hc0⟩ : ∃ c, qs[at_]? = some c := ⟨_, List.getElem?_eq_getElem hlt⟩
  refine { b with lev := fun c hc q hq => ?_, cl := fun i c hi hc e he => ?_, cE := fun c _ e he => nomatch he }
  · have h1 := b.lev c0 hc0 q hq
    have h2 := b.mono at_ (at_ + 1) c0 c (Nat.le_succ _) hc0 hc
    omega
  · rcases Nat.lt_or_ge i at_ with h | h
    · exact b.cl i c h hc e he
    · have : i = at_ := by omega
      subst this
      exact b.cE c hc e (hE c hc e he)
/-- when all is done, all that can be met was met -/
theorem BIn.all (b : BIn sc s at_ [] qs) (h : qs.length ≤ at_) {ls : List Str} {v : α} (hp : Pt sc s ls v) : v ∈ qs.map (·.1) := by
  induction hp with
  | nil => exact List.mem_map.mpr ⟨_, List.mem_of_getElem? b.ini, rfl⟩
  | @snoc ls x e _ he ih =>
    obtain ⟨q, hq, rfl⟩ := List.mem_map.mp ih
    obtain ⟨i, hi⟩ := List.getElem?_of_mem hq
    have := (List.getElem?_eq_some_iff.mp hi).1
    obtain ⟨q', hq', e3, _⟩ := b.cl i q (by omega) hi e he
    exact List.mem_map.mpr ⟨q', hq', e3⟩
/-- things met out of a row: no more than it has -/
theorem BIn.few (b : BIn sc s at_ E qs) {N : List α} (h0 : s ∈ N) (hN : ∀ x ∈ N, ∀ e ∈ sc x, e.2 ∈ N) : qs.length ≤ N.length := by
  have := nd_sub (ys := N) b.nd fun x hx => by
    obtain ⟨q, hq, rfl⟩ := List.mem_map.mp hx
    have := b.pt q hq
    generalize q.1 = v at this
    generalize q.2 = ls at this
    induction this with
    | nil => exact h0
    | snoc _ he ih => exact hN _ ih _ he
  rwa [List.length_map] at this
end

/-! ### what is begun -/
def begM (m : Mc) (ps : List Nat) (x : Str) : List Nat := ((List.range m.at_.length).filter fun a => decide (a ∈ m.fi) || behM m ps a).filter fun a => tkM m a x
/-- the atoms by which the lane gone last is read -/
def stM (m : Mc) (ls : List Str) : List Nat := ls.foldl (begM m) []
end DL

/-! FM: dicts with nested keys: walked, copied (one entry), set beside the empty one (own work). -/
namespace DL
open PySem L2 PySem.W PyProof.Rows

section
variable {X : Cx} {pins : List (Addr × Obj)} {σ : L2.St} {H : Hp} {s : Shared} {d : Addr} {o : Obj} {xs : List (NestedKey × Addr × V)}
end
section
variable {X : Cx} {o i e tg : Expr} {pos pos' : Pos} {td ty tv tk : TE}
end

section
variable {K : PySem.W.Frag} {B F F0 : Hp} {ro : Ro} {ka k1 k2 k3 kr : Cells} {ta : List (V × W)} {sg : L2.St} {H H' : Hp} {te tf tg tk tv : TE} {tt : TT} {w x y : W} {n : Nd} {a : Addr} {b : Bool} {De : Ends} {u : TS} {wi : TI} {ws : List W}
end

/-! ### by data -/
section
variable {K : PySem.W.Frag} {B F F0 : Hp} {ro : Ro} {ka k1 k2 k3 kr : Cells} {ta : List (V × W)} {sg : L2.St} {H H' : Hp} {te tf tg tk tv : TE} {tt : TT} {w x y z : W} {a : Addr} {b : Bool} {wd : World} {ds : List (NestedKey × D)}
end
end DL

/-! FN: searches by levels of one distance; a machine told by a law (own work). -/
namespace DL
open PySem L2 PySem.W
section
variable {α : Type} [DecidableEq α] {sc : α → List (Str × α)} {s : α} {n : Nat} {L Kn N : List α} {G : α → Prop}
theorem pt_in (h0 : s ∈ N) (hN : ∀ x ∈ N, ∀ e ∈ sc x, e.2 ∈ N) {ls : List Str} {x : α} (h : Pt sc s ls x) : x ∈ N := by
  induction h with
  | nil => exact h0
  | snoc _ he ih => exact hN _ ih _ he
theorem pt_last {ls : List Str} {y : α} (h : Pt sc s ls y) : (ls = [] ∧ y = s) ∨ ∃ us x e, Pt sc s us x ∧ e ∈ sc x ∧ e.2 = y ∧ ls = us ++ [e.1] := by
  cases h with
  | nil => exact .inl ⟨rfl, rfl⟩
  | snoc h he => exact .inr ⟨_, _, _, h, he, rfl, rfl⟩
/-- L is what is met behind n steps and not earlier, Kn what is met behind n steps or earlier -/
structure LvI (sc : α → List (Str × α)) (s : α) (n : Nat) (L Kn : List α) : Prop where
  nd : Kn.Nodup
  sub : ∀ x ∈ L, x ∈ Kn
  ndL : L.Nodup
  pt : ∀ x ∈ L, ∃ ls, ls.length = n ∧ Pt sc s ls x
  rc : ∀ x ∈ Kn, ∃ ls, Pt sc s ls x
  kn : ∀ ls x, Pt sc s ls x → ls.length ≤ n → x ∈ Kn
  lv : ∀ x ∈ Kn, x ∈ L ∨ ∃ ls, ls.length < n ∧ Pt sc s ls x
theorem LvI.start (sc : α → List (Str × α)) (s : α) : LvI sc s 0 [s] [s] where
  nd := List.nodup_cons.mpr ⟨List.not_mem_nil, List.nodup_nil⟩
  ndL := List.nodup_cons.mpr ⟨List.not_mem_nil, List.nodup_nil⟩
  sub := fun _ h => h
  pt := fun x h => ⟨[], rfl, by rw [List.mem_singleton.mp h]; exact .nil⟩
  rc := fun x h => ⟨[], by rw [List.mem_singleton.mp h]; exact .nil⟩
  kn := fun ls x h hl => by
    rcases pt_last h with ⟨_, e⟩ | ⟨us, y, e, _, _, _, e2⟩
    · exact List.mem_singleton.mpr e
    · rw [e2, List.length_append, List.length_singleton] at hl
      omega
  lv := fun x h => .inl h
theorem LvI.next (h : LvI sc s n L Kn) {F : List α} (hF : ∀ y, y ∈ F ↔ ∃ x ∈ L, ∃ e ∈ sc x, e.2 = y) (nF : F.Nodup) {p : α → Bool} (hp : ∀ y, p y = true ↔ y ∉ Kn) : LvI sc s (n + 1) (F.filter p) (Kn ++ F.filter p) := by
  have new : ∀ x, x ∈ F.filter p ↔ x ∈ F ∧ x ∉ Kn := fun x => by rw [List.mem_filter, hp]
  have step : ∀ y ∈ F, ∃ ls, ls.length = n + 1 ∧ Pt sc s ls y := fun y hy => by
    obtain ⟨x, hx, e, he, rfl⟩ := (hF y).mp hy
    obtain ⟨ls, hl, hp⟩ := h.pt x hx
    exact ⟨ls ++ [e.1], by rw [List.length_append, hl]; rfl, hp.snoc he⟩
  refine ⟨?_, fun x hx => List.mem_append_right _ hx, nF.filter _, fun x hx => step x ((new x).mp hx).1, fun x hx => ?_, fun ls x hp hl => ?_, fun x hx => ?_⟩
  · rw [List.nodup_append]
    exact ⟨h.nd, nF.filter _, fun x hx y hy e => ((new y).mp hy).2 (e ▸ hx)⟩
  · rcases List.mem_append.mp hx with hx | hx
    · exact h.rc x hx
    · obtain ⟨ls, _, hp⟩ := step x ((new x).mp hx).1
      exact ⟨ls, hp⟩
  · by_cases hx : x ∈ Kn
    · exact List.mem_append_left _ hx
    · refine List.mem_append_right _ ((new x).mpr ⟨?_, hx⟩)
      rcases pt_last hp with ⟨e1, e2⟩ | ⟨us, y, e, hy, he, e2, e3⟩
      · exact absurd (h.kn [] x (by rw [e2]; exact .nil) (Nat.zero_le _)) hx
      · rw [e3, List.length_append, List.length_singleton] at hl
        rcases h.lv y (h.kn us y hy (by omega)) with hL | ⟨vs, hv, hy2⟩
        · exact (hF x).mpr ⟨y, hL, e, he, e2⟩
        · exact absurd (h.kn (vs ++ [e.1]) x (e2 ▸ hy2.snoc he) (by rw [List.length_append, List.length_singleton]; omega)) hx
  · rcases List.mem_append.mp hx with hx | hx
    · rcases h.lv x hx with hL | ⟨ls, hl, hp⟩
      · obtain ⟨ls, hl, hp⟩ := h.pt x hL
        exact .inr ⟨ls, by omega, hp⟩
      · exact .inr ⟨ls, by omega, hp⟩
    · exact .inl hx
theorem LvI.short (h : LvI sc s n [] Kn) : ∀ ls x, Pt sc s ls x → ∃ us, us.length < n ∧ Pt sc s us x := by
  intro ls x hp
  induction hp with
  | nil =>
    rcases h.lv s (h.kn [] s .nil (Nat.zero_le _)) with hL | hL
    · cases hL
    · exact hL
  | @snoc ls x e _ he ih =>
    obtain ⟨us, hu, hp⟩ := ih
    rcases h.lv e.2 (h.kn _ _ (hp.snoc he) (by rw [List.length_append, List.length_singleton]; omega)) with hL | hL
    · cases hL
    · exact hL
theorem LvI.few (h : LvI sc s n L Kn) (h0 : s ∈ N) (hN : ∀ x ∈ N, ∀ e ∈ sc x, e.2 ∈ N) : Kn.length ≤ N.length := nd_sub h.nd fun x hx => by
  obtain ⟨ls, hp⟩ := h.rc x hx
  exact pt_in h0 hN hp
end
/-! ### a machine as a law makes it -/
/-- the same machine, its parts in another order -/
structure McE (m n : Mc) : Prop where
  at_ : m.at_ = n.at_
  fi : ∀ a, a ∈ m.fi ↔ a ∈ n.fi
  la : ∀ a, a ∈ m.la ↔ a ∈ n.la
  pr : ∀ p, p ∈ m.pr ↔ p ∈ n.pr
  op : m.op = n.op
section
variable {m n : Mc}
theorem McE.tk (e : McE m n) (a : Nat) (x : Str) : tkM m a x = tkM n a x := by
  unfold tkM
  rw [e.at_]
theorem McE.beh (e : McE m n) (ps : List Nat) (a : Nat) : behM m ps a = behM n ps a := by
  unfold behM
  simp only [e.pr]
theorem McE.beg (e : McE m n) (ps : List Nat) (x : Str) : begM m ps x = begM n ps x := by
  unfold begM
  simp only [e.tk, e.beh, e.fi, e.at_]
theorem McE.done (e : McE m n) (ps : List Nat) : doneM m ps = doneM n ps := by
  unfold doneM
  simp only [e.la]
theorem McE.st (e : McE m n) (ls : List Str) : stM m ls = stM n ls := by
  unfold stM
  rw [show begM m = begM n from funext fun ps => funext fun x => e.beg ps x]
theorem McE.refl : McE m m := ⟨rfl, fun _ => Iff.rfl, fun _ => Iff.rfl, fun _ => Iff.rfl, rfl⟩
end
end DL

/-! FO: shortest words that part two machines, searched by levels, in plain Lean (own work). -/
namespace DL
open PySem L2 PySem.W

/-! ### sub-rows again -/
theorem subs_iff {α : Type} {xs ys : List α} : ys ∈ subs xs ↔ ys.Sublist xs := by
  induction xs generalizing ys with
  | nil => rw [subs, List.mem_singleton, List.sublist_nil]
  | cons x xs ih =>
    rw [subs, List.mem_append, List.mem_map]
    constructor
    · rintro (h | ⟨zs, h, rfl⟩)
      · exact (ih.mp h).cons _
      · exact (ih.mp h).cons_cons _
    · intro h
      cases h with
      | cons _ h => exact .inl (ih.mpr h)
      | cons_cons _ h => exact .inr ⟨_, ih.mpr h, rfl⟩
theorem mc_fi_sub : ∀ (t : Tr) (s : Nat), (mcT t s).fi.Sublist (List.range' s (mcT t s).at_.length)
  | .at k ns, s => List.Sublist.refl _
  | .rep a, s => mc_fi_sub a s
  | .opt a, s => mc_fi_sub a s
  | .either a b, s => by
    show ((mcT a s).fi ++ (mcT b (s + (mcT a s).at_.length)).fi).Sublist (List.range' s ((mcT a s).at_ ++ (mcT b (s + (mcT a s).at_.length)).at_).length)
    rw [List.length_append, ← List.range'_append_1]
    exact (mc_fi_sub a s).append (mc_fi_sub b _)
  | .join a b, s => by
    show (if (mcT a s).op then (mcT a s).fi ++ (mcT b (s + (mcT a s).at_.length)).fi else (mcT a s).fi).Sublist (List.range' s ((mcT a s).at_ ++ (mcT b (s + (mcT a s).at_.length)).at_).length)
    rw [List.length_append, ← List.range'_append_1]
    split
    · exact (mc_fi_sub a s).append (mc_fi_sub b _)
    · exact (mc_fi_sub a s).trans (List.sublist_append_left _ _)
theorem start_sub (t : Tr) (x : Str) : startM (mcT t 0) x ∈ subs (List.range (mcT t 0).at_.length) := by
  rw [subs_iff, List.range_eq_range']
  exact (List.filter_sublist).trans (mc_fi_sub t 0)
theorem after_sub (m : Mc) (ps : List Nat) (x : Str) : afterM m ps x ∈ subs (List.range m.at_.length) := flt_subs _ _

/-! ### words and what two machines make of them -/
abbrev P2 := List Nat × List Nat
def st2 (m n : Mc) (w : List Str) : P2 := (runM m w, runM n w)
def nx2 (m n : Mc) (p : P2) (x : Str) : P2 := (afterM m p.1 x, afterM n p.2 x)
theorem st2_snoc {m n : Mc} {w : List Str} {x : Str} (h : w ≠ []) : st2 m n (w ++ [x]) = nx2 m n (st2 m n w) x := by
  unfold st2 nx2
  rw [run_snoc h, run_snoc h]
/-- all pairs there can be -/
def p2All (m n : Mc) : List P2 := (subs (List.range m.at_.length)).flatMap fun a => (subs (List.range n.at_.length)).map fun b => (a, b)
theorem p2All_len (m n : Mc) : (p2All m n).length = 2 ^ m.at_.length * 2 ^ n.at_.length := by
  have key : ∀ (xs : List (List Nat)), (xs.flatMap fun a => (subs (List.range n.at_.length)).map fun b => (a, b)).length = xs.length * 2 ^ n.at_.length := fun xs => by
    induction xs with
    | nil => simp
    | cons x xs ih => rw [List.flatMap_cons, List.length_append, ih, List.length_map, subs_len, List.length_range, List.length_cons, Nat.add_mul, Nat.one_mul, Nat.add_comm]
  unfold p2All
  rw [key, subs_len, List.length_range]
theorem p2All_mem {m n : Mc} {p : P2} (h1 : p.1 ∈ subs (List.range m.at_.length)) (h2 : p.2 ∈ subs (List.range n.at_.length)) : p ∈ p2All m n :=
  List.mem_flatMap.mpr ⟨p.1, h1, List.mem_map.mpr ⟨p.2, h2, rfl⟩⟩
theorem st2_all (t u : Tr) {w : List Str} (h : w ≠ []) : st2 (mcT t 0) (mcT u 0) w ∈ p2All (mcT t 0) (mcT u 0) := by
  have key : ∀ (t : Tr) (w : List Str), w ≠ [] → runM (mcT t 0) w ∈ subs (List.range (mcT t 0).at_.length) := fun t w h => by
    obtain ⟨ys, y, rfl⟩ : ∃ ys y, w = ys ++ [y] := ⟨w.dropLast, w.getLast h, (List.dropLast_concat_getLast h).symm⟩
    by_cases e : ys = []
    · subst e
      exact start_sub t y
    · rw [run_snoc e]
      exact after_sub _ _ _
  exact p2All_mem (key t w h) (key u w h)

/-! ### the search -/
/-- words told so far; the first `at_` are done; ks: the pairs that were met -/
structure WIn (m n : Mc) (N : List Str) (at_ : Nat) (ks : List P2) (qs : List (List Str)) : Prop where
  ini : ∀ x ∈ N, [x] ∈ qs
  ne : ∀ q ∈ qs, q ≠ []
  mono : ∀ (i j : Nat) (p q : List Str), i ≤ j → qs[i]? = some p → qs[j]? = some q → p.length ≤ q.length
  lev : ∀ c, qs[at_]? = some c → ∀ q ∈ qs, q.length ≤ c.length + 1
  old : ∀ k ∈ ks, ∃ (j : Nat) (q : List Str), j < at_ ∧ qs[j]? = some q ∧ st2 m n q = k ∧ ∀ x ∈ N, q ++ [x] ∈ qs
  kn : ∀ (i : Nat) (c : List Str), i < at_ → qs[i]? = some c → st2 m n c ∈ ks
  cl : ∀ (i : Nat) (c : List Str), i < at_ → qs[i]? = some c → ∃ (j : Nat) (q : List Str), j ≤ i ∧ qs[j]? = some q ∧ st2 m n q = st2 m n c ∧ ∀ x ∈ N, q ++ [x] ∈ qs
  nd : ks.Nodup
  len : qs.length = N.length * (ks.length + 1)
  ll : ∀ q ∈ qs, q.length ≤ ks.length + 1
  lt : ∀ q ∈ qs, ∀ x ∈ q, x ∈ N
section
variable {m n : Mc} {N : List Str} {at_ : Nat} {ks : List P2} {qs : List (List Str)}
theorem WIn.start (m n : Mc) (N : List Str) : WIn m n N 0 [] (N.map fun x => [x]) where
  ini := fun x hx => List.mem_map.mpr ⟨x, hx, rfl⟩
  ne := fun q hq => by
    obtain ⟨x, _, rfl⟩ := List.mem_map.mp hq
    exact List.cons_ne_nil _ _
  mono := fun i j p q _ hp hq => by
    obtain ⟨x, _, rfl⟩ := List.mem_map.mp (List.mem_of_getElem? hp)
    obtain ⟨y, _, rfl⟩ := List.mem_map.mp (List.mem_of_getElem? hq)
    exact Nat.le_refl _
  lev := fun c _ q hq => by
    obtain ⟨x, _, rfl⟩ := List.mem_map.mp hq
    exact Nat.succ_le_succ (Nat.zero_le _)
  old := fun k hk => nomatch hk
  kn := fun i c h => absurd h (Nat.not_lt_zero _)
  cl := fun i c h => absurd h (Nat.not_lt_zero _)
  nd := List.nodup_nil
  len := by rw [List.length_map]; exact (Nat.mul_one _).symm
  ll := fun q hq => by
    obtain ⟨x, _, rfl⟩ := List.mem_map.mp hq
    exact Nat.le_refl _
  lt := fun q hq y hy => by
    obtain ⟨x, hx, rfl⟩ := List.mem_map.mp hq
    rw [List.mem_singleton.mp hy]
    exact hx
/-- a pair that was met -/
theorem WIn.again (b : WIn m n N at_ ks qs) {c : List Str} (hc : qs[at_]? = some c) (h : st2 m n c ∈ ks) : WIn m n N (at_ + 1) ks qs := { b with
  lev := fun d hd q hq => by
    have h1 := b.lev c hc q hq
    have h2 := b.mono at_ (at_ + 1) c d (Nat.le_succ _) hc hd
    omega
  old := fun k hk => by
    obtain ⟨j, q, h1, r⟩ := b.old k hk
    exact ⟨j, q, Nat.lt_succ_of_lt h1, r⟩
  kn := fun i d hi hd => by
    rcases Nat.lt_or_ge i at_ with g | g
    · exact b.kn i d g hd
    · have : i = at_ := by omega
      subst this
      rw [hc] at hd
      cases hd
      exact h
  cl := fun i d hi hd => by
    rcases Nat.lt_or_ge i at_ with g | g
    · exact b.cl i d g hd
    · have : i = at_ := by omega
      subst this
      rw [hc] at hd
      cases hd
      obtain ⟨j, q, h1, h2, h3, h4⟩ := b.old _ h
      exact ⟨j, q, Nat.le_of_lt h1, h2, h3, h4⟩ }
/-- a new pair -/
theorem WIn.new (b : WIn m n N at_ ks qs) {c : List Str} (hc : qs[at_]? = some c) (h : st2 m n c ∉ ks) : WIn m n N (at_ + 1) (ks ++ [st2 m n c]) (qs ++ N.map fun x => c ++ [x]) := by
  have hlt : at_ < qs.length := (List.getElem?_eq_some_iff.mp hc).1
  have up : ∀ {i : Nat} {x : List Str}, qs[i]? = some x → (qs ++ N.map fun x => c ++ [x])[i]? = some x := fun {i x} hx => by rwa [List.getElem?_append_left (List.getElem?_eq_some_iff.mp hx).1]
  have key : ∀ {k : Nat} {x : List Str}, (qs ++ N.map fun x => c ++ [x])[k]? = some x → (k < qs.length ∧ qs[k]? = some x) ∨ (qs.length ≤ k ∧ x.length = c.length + 1) := fun {k x} hx => by
    by_cases hk : k < qs.length
    · rw [List.getElem?_append_left hk] at hx
      exact .inl ⟨hk, hx⟩
    · rw [List.getElem?_append_right (Nat.le_of_not_lt hk)] at hx
      obtain ⟨y, _, rfl⟩ := List.mem_map.mp (List.mem_of_getElem? hx)
      exact .inr ⟨Nat.le_of_not_lt hk, by rw [List.length_append]; rfl⟩
  have low : ∀ {i : Nat} {x : List Str}, i < at_ + 1 → (qs ++ N.map fun x => c ++ [x])[i]? = some x → qs[i]? = some x := fun {i x} hi hx => by
    rcases key hx with ⟨_, h⟩ | ⟨h, _⟩
    · exact h
    · omega
  have le1 : ∀ {q : List Str}, q ∈ qs ++ N.map (fun x => c ++ [x]) → q.length ≤ c.length + 1 := fun {q} hq => by
    rcases List.mem_append.mp hq with hq | hq
    · exact b.lev c hc q hq
    · obtain ⟨y, _, rfl⟩ := List.mem_map.mp hq
      rw [List.length_append]
      exact Nat.le_refl _
  have own : ∀ x ∈ N, c ++ [x] ∈ qs ++ N.map (fun x => c ++ [x]) := fun x hx => List.mem_append_right _ (List.mem_map.mpr ⟨x, hx, rfl⟩)
  refine ⟨fun x hx => List.mem_append_left _ (b.ini x hx), fun q hq => ?_, fun i j p q hij hp hq => ?_, fun d hd q hq => ?_, fun k hk => ?_, fun i d hi hd => ?_, fun i d hi hd => ?_, ?_, ?_, fun q hq => ?_, fun q hq z hz => ?_⟩
  · rcases List.mem_append.mp hq with hq | hq
    · exact b.ne q hq
    · obtain ⟨y, _, rfl⟩ := List.mem_map.mp hq
      simp
  · rcases key hp with ⟨h1, hp⟩ | ⟨h1, e1⟩ <;> rcases key hq with ⟨h2, hq⟩ | ⟨h2, e2⟩
    · exact b.mono i j p q hij hp hq
    · rw [e2]
      exact b.lev c hc p (List.mem_of_getElem? hp)
    · omega
    · omega
  · have h1 := le1 hq
    have h2 : c.length ≤ d.length := by
      rcases key hd with ⟨_, hd⟩ | ⟨_, e⟩
      · exact b.mono at_ (at_ + 1) c d (Nat.le_succ _) hc hd
      · omega
    omega
  · rcases List.mem_append.mp hk with hk | hk
    · obtain ⟨j, q, h1, h2, h3, h4⟩ := b.old k hk
      exact ⟨j, q, Nat.lt_succ_of_lt h1, up h2, h3, fun x hx => List.mem_append_left _ (h4 x hx)⟩
    · rw [List.mem_singleton.mp hk]
      exact ⟨at_, c, Nat.lt_succ_self _, up hc, rfl, own⟩
  · have hd' := low hi hd
    rcases Nat.lt_or_ge i at_ with g | g
    · exact List.mem_append_left _ (b.kn i d g hd')
    · have : i = at_ := by omega
      subst this
      rw [hc] at hd'
      cases hd'
      exact List.mem_append_right _ (List.mem_singleton.mpr rfl)
  · have hd' := low hi hd
    rcases Nat.lt_or_ge i at_ with g | g
    · obtain ⟨j, q, h1, h2, h3, h4⟩ := b.cl i d g hd'
      exact ⟨j, q, h1, up h2, h3, fun x hx => List.mem_append_left _ (h4 x hx)⟩
    · have : i = at_ := by omega
      subst this
      rw [hc] at hd'
      cases hd'
      exact ⟨i, c, Nat.le_refl _, up hc, rfl, own⟩
  · rw [List.nodup_append]
    exact ⟨b.nd, by simp, fun x hx y hy => by
      rintro rfl
      rw [List.mem_singleton.mp hy] at hx
      exact h hx⟩
  · rw [List.length_append, List.length_map, b.len, List.length_append, List.length_singleton, Nat.mul_succ N.length (ks.length + 1)]
  · rw [List.length_append, List.length_singleton]
    rcases List.mem_append.mp hq with hq | hq
    · exact Nat.le_succ_of_le (b.ll q hq)
    · obtain ⟨y, _, rfl⟩ := List.mem_map.mp hq
      rw [List.length_append]
      exact Nat.succ_le_succ (b.ll c (List.mem_of_getElem? hc))
  · rcases List.mem_append.mp hq with hq | hq
    · exact b.lt q hq z hz
    · obtain ⟨y, hy, rfl⟩ := List.mem_map.mp hq
      rcases List.mem_append.mp hz with hz | hz
      · exact b.lt c (List.mem_of_getElem? hc) z hz
      · rw [List.mem_singleton.mp hz]
        exact hy
/-- every word is met, or one no longer is still to come -/
theorem WIn.met (b : WIn m n N at_ ks qs) {w : List Str} (hne : w ≠ []) (hN : ∀ x ∈ w, x ∈ N) : ∃ (i : Nat) (q : List Str), qs[i]? = some q ∧ q.length ≤ w.length ∧ ((i < at_ ∧ st2 m n q = st2 m n w) ∨ at_ ≤ i) := by
  induction w using list_snoc_ind with
  | nil => exact absurd rfl hne
  | snoc w x ih =>
    have hx := hN x (List.mem_append_right _ (List.mem_singleton.mpr rfl))
    have fin : ∀ q, q ∈ qs → q.length ≤ (w ++ [x]).length → st2 m n q = st2 m n (w ++ [x]) → ∃ (i : Nat) (q : List Str), qs[i]? = some q ∧ q.length ≤ (w ++ [x]).length ∧ ((i < at_ ∧ st2 m n q = st2 m n (w ++ [x])) ∨ at_ ≤ i) := fun q hq hl he => by
      obtain ⟨i, hi⟩ := List.getElem?_of_mem hq
      rcases Nat.lt_or_ge i at_ with g | g
      · exact ⟨i, q, hi, hl, .inl ⟨g, he⟩⟩
      · exact ⟨i, q, hi, hl, .inr g⟩
    by_cases e : w = []
    · subst e
      exact fin [x] (b.ini x hx) (Nat.le_refl _) rfl
    · obtain ⟨i, q, hq, hl, h | h⟩ := ih e fun y hy => hN y (List.mem_append_left _ hy)
      · obtain ⟨j, p, h1, h2, h3, h4⟩ := b.cl i q h.1 hq
        have hp := List.mem_of_getElem? h2
        have hpl := b.mono j i p q h1 h2 hq
        refine fin (p ++ [x]) (h4 x hx) ?_ ?_
        · rw [List.length_append, List.length_append, List.length_singleton]
          omega
        · rw [st2_snoc (b.ne p hp), st2_snoc e, h3, h.2]
      · exact ⟨i, q, hq, by rw [List.length_append]; omega, .inr h⟩
theorem WIn.none (b : WIn m n N at_ ks qs) {G : P2 → Prop} (no : ∀ k ∈ ks, ¬ G k) (h : qs.length ≤ at_) {w : List Str} (hne : w ≠ []) (hN : ∀ x ∈ w, x ∈ N) : ¬ G (st2 m n w) := fun hg => by
  obtain ⟨i, q, hq, hl, g | g⟩ := b.met hne hN
  · exact no _ (b.kn i q g.1 hq) (g.2 ▸ hg)
  · have := (List.getElem?_eq_some_iff.mp hq).1
    omega
end

section
variable {t u : Tr} {one : Bool} {N : List Str} {f : Str} {at_ : Nat} {ks : List P2} {qs : List (List Str)}
end

end DL

/-! FP: what machines of like trees make of words; how many pairs there are; how many ends (own work). -/
namespace DL
open PySem L2 PySem.W

section
variable {m n : Mc}
end
theorem run_rep2 (a : Tr) (w : List Str) : runM (mcT (.rep (.rep a)) 0) w = runM (mcT (.rep a) 0) w := by
  have af : ∀ ps x, afterM (mcT (.rep (.rep a)) 0) ps x = afterM (mcT (.rep a) 0) ps x := fun ps x => by
    refine List.filter_congr fun b _ => ?_
    have : behM (mcT (.rep (.rep a)) 0) ps b = behM (mcT (.rep a) 0) ps b := by
      unfold behM
      rw [Bool.eq_iff_iff, List.any_eq_true, List.any_eq_true]
      constructor
      · rintro ⟨p, hp, h⟩
        refine ⟨p, hp, decide_eq_true ?_⟩
        rcases List.mem_append.mp (of_decide_eq_true h) with h | h
        · exact h
        · exact List.mem_append_right _ h
      · rintro ⟨p, hp, h⟩
        exact ⟨p, hp, decide_eq_true (List.mem_append_left _ (of_decide_eq_true h))⟩
    rw [this]
    rfl
  have fold : ∀ (r : List Str) (ps : List Nat), r.foldl (afterM (mcT (.rep (.rep a)) 0)) ps = r.foldl (afterM (mcT (.rep a) 0)) ps := fun r => by
    induction r with
    | nil => exact fun _ => rfl
    | cons x r ih => exact fun ps => by rw [List.foldl_cons, List.foldl_cons, af, ih]
  cases w with
  | nil => rfl
  | cons x r => exact fold r _

/-! ### how many pairs there are -/
/-- all that two machines make of words stands in a row of c pairs -/
def PrOk (t u : Tr) (c : Nat) : Prop := ∃ PA : List P2, PA.length ≤ c ∧ ∀ w, w ≠ [] → st2 (mcT t 0) (mcT u 0) w ∈ PA
theorem PrOk.up {t u : Tr} {c d : Nat} (h : PrOk t u c) (hd : c ≤ d) : PrOk t u d := by
  obtain ⟨PA, h1, h2⟩ := h
  exact ⟨PA, by omega, h2⟩
theorem PrOk.all (t u : Tr) : PrOk t u (2 ^ t.ats * 2 ^ u.ats) := ⟨p2All (mcT t 0) (mcT u 0), by rw [p2All_len, mc_at_len, mc_at_len]; exact Nat.le_refl _, fun w h => st2_all t u h⟩
theorem PrOk.swap {t u : Tr} {c : Nat} (h : PrOk t u c) : PrOk u t c := by
  obtain ⟨PA, h1, h2⟩ := h
  exact ⟨PA.map fun p => (p.2, p.1), by rw [List.length_map]; exact h1, fun w hw => List.mem_map.mpr ⟨_, h2 w hw, rfl⟩⟩
/-- what the second makes is told by what others make -/
theorem PrOk.by {t u v : Tr} {c : Nat} (h : PrOk t v c) (f : P2 → List Nat) (hf : ∀ w, runM (mcT u 0) w = f (st2 (mcT t 0) (mcT v 0) w)) : PrOk t u c := by
  obtain ⟨PA, h1, h2⟩ := h
  exact ⟨PA.map fun p => (p.1, f p), by rw [List.length_map]; exact h1, fun w hw => List.mem_map.mpr ⟨_, h2 w hw, by unfold st2; rw [hf]; rfl⟩⟩
theorem PrOk.same (t : Tr) : PrOk t t (2 ^ t.ats) := by
  refine ⟨(subs (List.range (mcT t 0).at_.length)).map fun a => (a, a), by rw [List.length_map, subs_len, List.length_range, mc_at_len]; exact Nat.le_refl _, fun w hw => List.mem_map.mpr ⟨runM (mcT t 0) w, ?_, rfl⟩⟩
  have := st2_all t t hw
  obtain ⟨a, ha, h⟩ := List.mem_flatMap.mp this
  obtain ⟨b, hb, e⟩ := List.mem_map.mp h
  rw [← show a = runM (mcT t 0) w from congrArg Prod.fst e]
  exact ha
theorem PrOk.opt (t : Tr) : PrOk t (.opt t) (2 ^ t.ats) := (PrOk.same t).by (fun p => p.2) fun w => rfl
theorem PrOk.rep (t : Tr) : PrOk (.rep t) (.rep (.rep t)) (2 ^ t.ats) := (PrOk.same (.rep t)).by (fun p => p.2) fun w => run_rep2 t w
/-! ### how many ends there are -/
def EB (n : Nat) : Tr → Nat
  | .at _ _ => 1
  | .either a b => EB n a + EB n b
  | .opt a => EB n a + 1
  | .join a b => (n + 1) * EB n b
  | .rep a => n + 1
/-- the rows stay short -/
def EbOk (n : Nat) : Tr → Prop
  | .at _ _ => True
  | .either a b => EbOk n a ∧ EbOk n b ∧ EB n a + EB n b ≤ 90000
  | .opt a => EbOk n a ∧ EB n a + 1 ≤ 90000
  | .join a b => EbOk n a ∧ EbOk n b ∧ EB n a ≤ 50000 ∧ (n + 1) * EB n b ≤ 90000
  | .rep a => EbOk n a ∧ EB n a ≤ 90000
theorem EB_dep {n : Nat} (hn : 1 ≤ n) : ∀ {t : Tr}, (t.dep = 0 → EB n t ≤ 1) ∧ (t.dep ≤ 1 → EB n t ≤ n + 1) ∧ (t.dep ≤ 2 → EB n t ≤ (n + 1) * (n + 1))
  | .at kd ns => ⟨fun _ => Nat.le_refl _, fun _ => by show 1 ≤ _; omega, fun _ => by show 1 ≤ _; exact Nat.mul_pos (by omega) (by omega)⟩
  | .rep a => by
    refine ⟨fun h => (by cases h), fun h => Nat.le_refl _, fun h => ?_⟩
    show n + 1 ≤ (n + 1) * (n + 1)
    exact Nat.le_mul_of_pos_right _ (by omega)
  | .opt a => by
    obtain ⟨h0, h1, h2⟩ := EB_dep hn (t := a)
    refine ⟨fun h => (by cases h), fun h => ?_, fun h => ?_⟩
    · have := h0 (by have : a.dep + 1 ≤ 1 := h; omega)
      show EB n a + 1 ≤ _
      omega
    · have := h1 (by have : a.dep + 1 ≤ 2 := h; omega)
      show EB n a + 1 ≤ (n + 1) * (n + 1)
      have e : (n + 1) * (n + 1) = n * (n + 1) + (n + 1) := Nat.succ_mul n (n + 1)
      have : 1 ≤ n * (n + 1) := Nat.mul_pos (by omega) (by omega)
      omega
  | .either a b => by
    obtain ⟨h0, h1, h2⟩ := EB_dep hn (t := a)
    obtain ⟨g0, g1, g2⟩ := EB_dep hn (t := b)
    refine ⟨fun h => (by cases h), fun h => ?_, fun h => ?_⟩
    · have h : max a.dep b.dep + 1 ≤ 1 := h
      have := h0 (by omega)
      have := g0 (by omega)
      show EB n a + EB n b ≤ _
      omega
    · have h : max a.dep b.dep + 1 ≤ 2 := h
      have := h1 (by omega)
      have := g1 (by omega)
      show EB n a + EB n b ≤ (n + 1) * (n + 1)
      have e : (n + 1) * (n + 1) = n * (n + 1) + (n + 1) := Nat.succ_mul n (n + 1)
      have : 1 * (n + 1) ≤ n * (n + 1) := Nat.mul_le_mul_right _ hn
      omega
  | .join a b => by
    obtain ⟨h0, h1, h2⟩ := EB_dep hn (t := a)
    obtain ⟨g0, g1, g2⟩ := EB_dep hn (t := b)
    refine ⟨fun h => (by cases h), fun h => ?_, fun h => ?_⟩
    · have h : max a.dep b.dep + 1 ≤ 1 := h
      have := g0 (by omega)
      show (n + 1) * EB n b ≤ n + 1
      calc (n + 1) * EB n b ≤ (n + 1) * 1 := Nat.mul_le_mul_left _ this
        _ = n + 1 := Nat.mul_one _
    · have h : max a.dep b.dep + 1 ≤ 2 := h
      have := g1 (by omega)
      exact Nat.mul_le_mul_left _ this
theorem sq_le {n : Nat} (h : n ≤ 256) : (n + 1) * (n + 1) ≤ 66049 := Nat.le_trans (Nat.mul_le_mul (show n + 1 ≤ 257 by omega) (show n + 1 ≤ 257 by omega)) (by decide)
/-- trees of at most two nested operators -/
theorem EbOk.dep {n : Nat} (h1 : 1 ≤ n) (hn : n ≤ 256) : ∀ {t : Tr}, t.dep ≤ 2 → EbOk n t
  | .at kd ns, _ => trivial
  | .rep a, h => by
    have h : a.dep + 1 ≤ 2 := h
    have := (EB_dep h1 (t := a)).2.1 (by omega)
    exact ⟨EbOk.dep h1 hn (by omega), by omega⟩
  | .opt a, h => by
    have h : a.dep + 1 ≤ 2 := h
    have := (EB_dep h1 (t := a)).2.1 (by omega)
    exact ⟨EbOk.dep h1 hn (by omega), by omega⟩
  | .either a b, h => by
    have h : max a.dep b.dep + 1 ≤ 2 := h
    have := (EB_dep h1 (t := a)).2.1 (by omega)
    have := (EB_dep h1 (t := b)).2.1 (by omega)
    exact ⟨EbOk.dep h1 hn (by omega), EbOk.dep h1 hn (by omega), by omega⟩
  | .join a b, h => by
    have h : max a.dep b.dep + 1 ≤ 2 := h
    have h3 := (EB_dep h1 (t := a)).2.1 (by omega)
    have h4 := (EB_dep h1 (t := b)).2.1 (by omega)
    have := sq_le hn
    exact ⟨EbOk.dep h1 hn (by omega), EbOk.dep h1 hn (by omega), by omega, Nat.le_trans (Nat.mul_le_mul_left _ h4) (by omega)⟩
theorem EB_mono {n m : Nat} (h : n ≤ m) : ∀ t : Tr, EB n t ≤ EB m t
  | .at _ _ => Nat.le_refl _
  | .either a b => Nat.add_le_add (EB_mono h a) (EB_mono h b)
  | .opt a => Nat.succ_le_succ (EB_mono h a)
  | .join a b => Nat.mul_le_mul (Nat.succ_le_succ h) (EB_mono h b)
  | .rep a => Nat.succ_le_succ h
theorem EbOk.mono {n m : Nat} (h : n ≤ m) : ∀ {t : Tr}, EbOk m t → EbOk n t
  | .at _ _, _ => trivial
  | .either a b, ⟨h1, h2, h3⟩ => ⟨h1.mono h, h2.mono h, Nat.le_trans (Nat.add_le_add (EB_mono h a) (EB_mono h b)) h3⟩
  | .opt a, ⟨h1, h3⟩ => ⟨h1.mono h, Nat.le_trans (Nat.succ_le_succ (EB_mono h a)) h3⟩
  | .join a b, ⟨h1, h2, h3, h4⟩ => ⟨h1.mono h, h2.mono h, Nat.le_trans (EB_mono h a) h3, Nat.le_trans (Nat.mul_le_mul (Nat.succ_le_succ h) (EB_mono h b)) h4⟩
  | .rep a, ⟨h1, h3⟩ => ⟨h1.mono h, Nat.le_trans (EB_mono h a) h3⟩

/-- a second tree beside a first one, as the law draws it -/
structure SecT (t u : Tr) : Prop where
  nt : niceT t
  nu : niceT u
  dt : t.dep ≤ 3
  du : u.dep ≤ 3
  at1 : t.ats ≤ 8
  at2 : u.ats ≤ 8
  pr : PrOk t u 256
  e1 : EbOk 256 t
  e2 : EbOk 256 u
theorem SecT.swap {t u : Tr} (h : SecT t u) : SecT u t := ⟨h.nu, h.nt, h.du, h.dt, h.at2, h.at1, h.pr.swap, h.e2, h.e1⟩
section
variable {t : Tr} (nt : niceT t) (dt : t.dep ≤ 2)
include nt dt
end
/-- a tuple of things that are told by a word -/
theorem evr_tupR {K : PySem.W.Frag} {ro : Ro} {ka : Cells} {tr : TA} {R : List W → Cells → Prop} (h : EvAR K tr ro ka R) (hR : ∀ ws k, R ws k → ∃ ds : List D, ws = ds.map W.val ∧ ds.length ≤ 100000) : EvR K (tTup tr) ro ka (fun w k => ∃ ds : List D, R (ds.map W.val) k ∧ w = .val (.tup ds)) := fun B F0 ta sg H Q e q =>
  h B F0 ta sg H _ e fun ws k vs H1 r hvl e1 => by
    obtain ⟨ds, rfl, hl⟩ := hR ws k r
    rw [List.length_map] at hvl
    refine ⟨Nat.le_trans (by rw [hvl]; exact hl) (by decide : 100000 ≤ sizeLine), fun p hp => q _ k _ _ ⟨ds, r, rfl⟩ ?_⟩
    obtain ⟨F, g, e1⟩ := e1
    obtain ⟨e2, g2⟩ := e1.lay (o := .tup vs) hp rfl
    refine ⟨_, g.trans g2, (e2.held (ta' := ta) fun p hp => List.mem_append_right _ hp).push ⟨p, vs, rfl, .inl (.inl upd_same), ?_⟩⟩
    exact RpL.mono g2.sub.exz e1.nz _ _ (rpl_of hvl fun z hz => e1.tm z (List.mem_append_left _ hz))
end DL

/-! FQ: {y: [] for y in ..} and {(y, ()): [] for y in ..} with nested keys, over lists, tuples and dicts; the library's DictComp_goesN with the hand layer's state at each turn (own work). -/
namespace DL
open PySem L2 PySem.W PyProof.Rows

/-- where the things come from -/
inductive DcOver (K : PySem.W.Frag) (H : Hp) (w : World) (l : Addr) (xs : List V) : Prop where
  | lst (h : SqL K H l xs)
  | tup (h : SqT K H l xs)
  | nest (rs : List (NestedKey × Addr × V)) (h : NAt K H w l rs) (e : xs = rs.map fun r => .ref r.2.1)
section
variable {X : Cx}
end
end DL

/-! FR: rules by data: {y: [] ..} with nested keys, list.pop, frozen dicts of lists with nested keys, dicts keyed by numbers (own work). -/
namespace DL
open PySem L2 PySem.W PyProof.Rows

section
variable {wd : World} {K : PySem.W.Frag} {B F F0 : Hp} {ro : Ro} {ka k1 k2 : Cells} {ta : List (V × W)} {sg : L2.St} {H : Hp} {te : TE} {w0 : W}
end

section
variable {wd : World} {K : PySem.W.Frag} {B F F0 : Hp} {ro : Ro} {ka k1 k2 k3 : Cells} {ta : List (V × W)} {sg : L2.St} {H : Hp} {te td ty tk tv tf : TE} {tt : TT} {tr : TA} {w x y : W} {a C : Addr} {b : Bool} {De : Ends} {u : TS} {E : XK} {P : W → Cells → Prop} {ds : List (Key × D)} {c : Key} {d : D} {n : Nd}
/-! ### an own object called -/
theorem Fn.fr {Pg : Program} {mg : Str → Option Value} {base : Heap} {k : Nat} {f : Addr} {ps : List Str} {Cc : Ct} (F : Fn Pg wd K mg base k f ps Cc) : FnR Pg wd K mg base (L2.CX Pg wd) k f (spC K Cc) := by
  obtain ⟨fd, F, hb⟩ := F
  exact (F.raw hb .nil).imp fun vs H Q E h => by rw [List.append_nil]; exact h
/-! ### frozen: a dict of nested keys with what stands behind -/
def FzN (K : PySem.W.Frag) (kt : Cells) : List (NestedKey × D) → List (NestedKey × D) → Prop
  | [], es => es = []
  | (k, d) :: ds, es => ∃ e r, es = (k, e) :: r ∧ FzR K kt d e ∧ FzN K kt ds r
theorem FzN.rp {kt : Cells} (nz : Nz F) (t : Thw K F H kt) : ∀ {ds es : List (NestedKey × D)} {xs : List (NestedKey × Addr × V)}, FzN K kt ds es → RpN K F ds xs → RpN K (thF F H kt) es xs
  | [], es, xs, z, h => by
    obtain rfl : es = [] := z
    exact h
  | (k, d) :: ds, es, xs, ⟨e, r, e1, z1, z2⟩, ⟨bb, x, ys, e2, h0, h1, h2⟩ => by
    subst e1
    exact ⟨bb, x, ys, e2, ⟨RkN.mono (thF_sub t.no).exz nz _ _ h0.1, h0.2⟩, z1.rp nz t h1, FzN.rp nz t z2 h2⟩
def FzK (K : PySem.W.Frag) (kt : Cells) : List (Key × D) → List (Key × D) → Prop
  | [], es => es = []
  | (k, d) :: ds, es => ∃ e r, es = (k, e) :: r ∧ FzR K kt d e ∧ FzK K kt ds r
theorem FzK.rp {kt : Cells} (nz : Nz F) (t : Thw K F H kt) : ∀ {ds es : List (Key × D)} {xs : List (Key × V)}, FzK K kt ds es → RpK K F ds xs → RpK K (thF F H kt) es xs
  | [], es, xs, z, h => by
    obtain rfl : es = [] := z
    exact h
  | (k, d) :: ds, es, xs, ⟨e, r, e1, z1, z2⟩, ⟨x, ys, e2, h1, h2⟩ => by
    subst e1
    exact ⟨x, ys, e2, z1.rp nz t h1, FzK.rp nz t z2 h2⟩
end
end DL

/-! FS: walks through all things, deepest first; lots of things that lead to one another, numbered; in plain Lean (own work). -/
namespace DL
section
variable {α : Type} [DecidableEq α]
/-- in n steps from x to y -/
inductive LdN (adj : α → List α) : Nat → α → α → Prop where
  | nil (x : α) : LdN adj 0 x x
  | cons {n : Nat} {x y z : α} (h : y ∈ adj x) (t : LdN adj n y z) : LdN adj (n + 1) x z
def Ld (adj : α → List α) (x y : α) : Prop := ∃ n, LdN adj n x y
variable {adj : α → List α}
theorem Ld.refl (x : α) : Ld adj x x := ⟨0, .nil x⟩
theorem Ld.step {x y : α} (h : y ∈ adj x) : Ld adj x y := ⟨1, .cons h (.nil y)⟩
theorem LdN.app {n m : Nat} {x y z : α} (h : LdN adj n x y) (t : LdN adj m y z) : ∃ k, LdN adj k x z := by
  induction h with
  | nil x => exact ⟨_, t⟩
  | cons h _ ih =>
    obtain ⟨k, hk⟩ := ih t
    exact ⟨_, .cons h hk⟩
theorem Ld.trans {x y z : α} (h : Ld adj x y) (t : Ld adj y z) : Ld adj x z := h.elim fun _ h => t.elim fun _ t => h.app t
theorem Ld.tail {x y z : α} (h : Ld adj x y) (t : z ∈ adj y) : Ld adj x z := h.trans (.step t)
theorem LdN.in_ {n : Nat} {x y : α} {V : List α} (h : LdN adj n x y) (cl : ∀ x ∈ V, ∀ y ∈ adj x, y ∈ V) (hx : x ∈ V) : y ∈ V := by
  induction h with
  | nil x => exact hx
  | cons h _ ih => exact ih (cl _ hx _ h)
/-- out of a set, there is a step -/
theorem LdN.cross {S : α → Prop} : ∀ {n : Nat} {x r : α}, LdN adj n x r → S x → ¬ S r → ∃ a b m, S a ∧ b ∈ adj a ∧ ¬ S b ∧ m < n ∧ LdN adj m b r ∧ Ld adj x b := by
  intro n
  induction n with
  | zero =>
    intro x r h hx hr
    cases h
    exact absurd hx hr
  | succ n ih =>
    intro x r h hx hr
    cases h with
    | @cons _ _ y _ hy t =>
      by_cases sy : S y
      · obtain ⟨a, b, m, h1, h2, h3, h4, h5, h6⟩ := ih t sy hr
        exact ⟨a, b, m, h1, h2, h3, by omega, h5, (Ld.step hy).trans h6⟩
      · exact ⟨x, y, n, hx, hy, sy, Nat.lt_succ_self _, t, .step hy⟩

/-! ### the order in which things are left -/
/-- all that is left by a moment leads to what is left by then, or to what leads to the one left then -/
def FinO (adj : α → List α) (order : List α) : Prop := ∀ (p : Nat) (x : α), order[p]? = some x → ∀ a ∈ order.take (p + 1), ∀ b ∈ adj a, b ∈ order.take (p + 1) ∨ Ld adj b x
/-- the last one left of all that are reached leads back -/
theorem FinO.back {order : List α} (F : FinO adj order) (nd : order.Nodup) (cl : ∀ x ∈ order, ∀ y ∈ adj x, y ∈ order) : ∀ (n : Nat) {x r : α}, x ∈ order → LdN adj n x r → (∀ z, Ld adj x z → order.idxOf z ≤ order.idxOf r) → Ld adj r x := by
  intro n
  induction n using Nat.strongRecOn with
  | _ n ih =>
    intro x r hx h mx
    have hr : r ∈ order := h.in_ cl hx
    have hp := List.idxOf_lt_length_of_mem hx
    have at_ : order[order.idxOf x]? = some x := by rw [List.getElem?_eq_getElem hp]; exact congrArg some (List.getElem_idxOf hp)
    have tk : ∀ {z : α}, z ∈ order.take (order.idxOf x + 1) ↔ z ∈ order ∧ order.idxOf z ≤ order.idxOf x := fun {z} => by
      constructor
      · intro hz
        have hz2 := List.mem_of_mem_take hz
        refine ⟨hz2, ?_⟩
        obtain ⟨i, hi⟩ := List.getElem?_of_mem hz
        rw [List.getElem?_take] at hi
        split at hi
        · rename_i lt
          have hl := (List.getElem?_eq_some_iff.mp hi).1
          have e := (List.getElem?_eq_some_iff.mp hi).2
          have : order.idxOf z = i := by
            have q := List.getElem_idxOf (List.idxOf_lt_length_of_mem hz2)
            exact (List.getElem_inj nd).mp (q.trans e.symm)
          omega
        · cases hi
      · rintro ⟨hz, hle⟩
        have hl := List.idxOf_lt_length_of_mem hz
        refine List.mem_of_getElem? (i := order.idxOf z) ?_
        rw [List.getElem?_take, if_pos (by omega), List.getElem?_eq_getElem hl]
        exact congrArg some (List.getElem_idxOf hl)
    by_cases hrt : r ∈ order.take (order.idxOf x + 1)
    · have h1 := (tk.mp hrt).2
      have h2 := mx x (Ld.refl x)
      have e : order.idxOf r = order.idxOf x := by omega
      have : r = x := by
        have q1 := List.getElem_idxOf (List.idxOf_lt_length_of_mem hr)
        have q2 := List.getElem_idxOf hp
        simp only [e] at q1
        exact q1.symm.trans q2
      rw [this]
      exact Ld.refl x
    · obtain ⟨a, b, m, h1, h2, h3, h4, h5, h6⟩ := h.cross (S := fun z => z ∈ order.take (order.idxOf x + 1)) (tk.mpr ⟨hx, Nat.le_refl _⟩) hrt
      have hb : b ∈ order := cl _ (List.mem_of_mem_take h1) _ h2
      rcases F _ x at_ a h1 b h2 with z | z
      · exact absurd z h3
      · exact (ih m h4 hb h5 fun z hz => mx z (h6.trans hz)).trans z
/-- on the way: what is left, what is known, what is open (the next place of each) -/
structure DfI (adj : α → List α) (V order known : List α) (stack : List (α × Nat)) : Prop where
  kn : ∀ x, x ∈ known ↔ x ∈ order ∨ x ∈ stack.map (·.1)
  nd : (order ++ stack.map (·.1)).Nodup
  kd : known.Nodup
  inV : ∀ x ∈ known, x ∈ V
  fin : ∀ a ∈ order, ∀ b ∈ adj a, b ∈ known
  F : FinO adj order
  ch : ∀ (pre post : List (α × Nat)) (s t : α × Nat), stack = pre ++ s :: t :: post → t.1 ∈ adj s.1
  pl : ∀ s ∈ stack, s.2 ≤ (adj s.1).length ∧ ∀ j b, j < s.2 → (adj s.1)[j]? = some b → b ∈ known
section
variable {V order known : List α} {stack : List (α × Nat)}
theorem list_nil_or_snoc {β : Type} (xs : List β) : xs = [] ∨ ∃ ys y, xs = ys ++ [y] := by
  by_cases h : xs = []
  · exact .inl h
  · exact .inr ⟨xs.dropLast, xs.getLast h, (List.dropLast_concat_getLast h).symm⟩
theorem snoc_split {β : Type} {xs pre post : List β} {x s t : β} (h : xs ++ [x] = pre ++ s :: t :: post) : (∃ post', xs = pre ++ s :: t :: post') ∨ (xs = pre ++ [s] ∧ x = t) := by
  rcases list_nil_or_snoc post with rfl | ⟨post', y, rfl⟩
  · right
    have h2 : xs ++ [x] = (pre ++ [s]) ++ [t] := by rw [h, List.append_assoc]; rfl
    exact ⟨List.append_inj_left' h2 rfl, by have := List.append_inj_right' h2 rfl; exact List.cons.inj this |>.1⟩
  · left
    have h2 : xs ++ [x] = (pre ++ s :: t :: post') ++ [y] := by rw [h, List.append_assoc]; rfl
    exact ⟨post', List.append_inj_left' h2 rfl⟩
/-- the top's next one is known -/
theorem DfI.old {st : List (α × Nat)} {s : α} {i : Nat} {b : α} (I : DfI adj V order known (st ++ [(s, i)])) (hb : (adj s)[i]? = some b) (hk : b ∈ known) : DfI adj V order known (st ++ [(s, i + 1)]) where
  kn := fun x => by
    have := I.kn x
    rw [List.map_append] at this ⊢
    exact this
  nd := by
    have := I.nd
    rw [List.map_append] at this ⊢
    exact this
  kd := I.kd
  inV := I.inV
  fin := I.fin
  F := I.F
  ch := fun pre post u t h => by
    rcases snoc_split h with ⟨post', h'⟩ | ⟨h1, h2⟩
    · exact I.ch pre (post' ++ [(s, i)]) u t (by rw [h', List.append_assoc]; rfl)
    · have := I.ch pre [] u (s, i) (by rw [h1, List.append_assoc]; rfl)
      rw [← h2]
      exact this
  pl := fun u hu => by
    rcases List.mem_append.mp hu with hu | hu
    · exact I.pl u (List.mem_append_left _ hu)
    · rw [List.mem_singleton.mp hu]
      have h0 := I.pl (s, i) (List.mem_append_right _ (List.mem_singleton.mpr rfl))
      refine ⟨(List.getElem?_eq_some_iff.mp hb).1, fun j c hj hc => ?_⟩
      rcases Nat.lt_or_ge j i with g | g
      · exact h0.2 j c g hc
      · have : j = i := by
          have hj : j < i + 1 := hj
          omega
        subst this
        have hc : (adj s)[j]? = some c := hc
        rw [hb] at hc
        cases hc
        exact hk
/-- the top's next one is new -/
theorem DfI.new {st : List (α × Nat)} {s : α} {i : Nat} {b : α} (I : DfI adj V order known (st ++ [(s, i)])) (hb : (adj s)[i]? = some b) (hk : b ∉ known) (hV : b ∈ V) : DfI adj V order (known ++ [b]) (st ++ [(s, i + 1)] ++ [(b, 0)]) where
  kn := fun x => by
    have := I.kn x
    rw [List.mem_append, this]
    simp only [List.map_append, List.map_cons, List.map_nil, List.mem_append, List.mem_singleton]
    constructor
    · rintro ((h | h | h) | h)
      · exact .inl h
      · exact .inr (.inl (.inl h))
      · exact .inr (.inl (.inr h))
      · exact .inr (.inr h)
    · rintro (h | (h | h) | h)
      · exact .inl (.inl h)
      · exact .inl (.inr (.inl h))
      · exact .inl (.inr (.inr h))
      · exact .inr h
  nd := by
    have h := I.nd
    rw [List.map_append] at h
    rw [List.map_append, List.map_append, ← List.append_assoc, List.nodup_append]
    refine ⟨h, by simp, fun x hx y hy => ?_⟩
    have hy : y = b := by simpa using hy
    rintro rfl
    refine hk (hy ▸ (I.kn x).mpr ?_)
    rw [List.map_append]
    exact List.mem_append.mp hx
  kd := by
    rw [List.nodup_append]
    exact ⟨I.kd, by simp, fun a ha b' hb' => by
      rw [List.mem_singleton] at hb'
      rintro rfl
      exact hk (hb' ▸ ha)⟩
  inV := fun x hx => (List.mem_append.mp hx).elim (I.inV x) fun h => by rw [List.mem_singleton.mp h]; exact hV
  fin := fun a ha c hc => List.mem_append_left _ (I.fin a ha c hc)
  F := I.F
  ch := fun pre post u t h => by
    rcases snoc_split h with ⟨post', h'⟩ | ⟨h1, h2⟩
    · rcases snoc_split h' with ⟨post2, h2⟩ | ⟨h3, h4⟩
      · exact I.ch pre (post2 ++ [(s, i)]) u t (by rw [h2, List.append_assoc]; rfl)
      · have := I.ch pre [] u (s, i) (by rw [h3, List.append_assoc]; rfl)
        rw [← h4]
        exact this
    · have e : u = (s, i + 1) := by
        have := List.append_inj_right' h1 rfl
        exact (List.cons.inj this).1.symm
      rw [e, ← h2]
      exact List.mem_of_getElem? hb
  pl := fun u hu => by
    have up : ∀ {u : α × Nat}, (u.2 ≤ (adj u.1).length ∧ ∀ j c, j < u.2 → (adj u.1)[j]? = some c → c ∈ known) → u.2 ≤ (adj u.1).length ∧ ∀ j c, j < u.2 → (adj u.1)[j]? = some c → c ∈ known ++ [b] := fun h => ⟨h.1, fun j c hj hc => List.mem_append_left _ (h.2 j c hj hc)⟩
    rcases List.mem_append.mp hu with hu | hu
    · rcases List.mem_append.mp hu with hu | hu
      · exact up (I.pl u (List.mem_append_left _ hu))
      · rw [List.mem_singleton.mp hu]
        have h0 := I.pl (s, i) (List.mem_append_right _ (List.mem_singleton.mpr rfl))
        refine ⟨(List.getElem?_eq_some_iff.mp hb).1, fun j c hj hc => ?_⟩
        rcases Nat.lt_or_ge j i with g | g
        · exact List.mem_append_left _ (h0.2 j c g hc)
        · have : j = i := by
            have hj : j < i + 1 := hj
            omega
          subst this
          have hc : (adj s)[j]? = some c := hc
          rw [hb] at hc
          cases hc
          exact List.mem_append_right _ (List.mem_singleton.mpr rfl)
    · rw [List.mem_singleton.mp hu]
      exact ⟨Nat.zero_le _, fun j c h => absurd h (Nat.not_lt_zero _)⟩
/-- what is open leads to the top -/
theorem DfI.chain {st : List (α × Nat)} {s : α} {i : Nat} (I : DfI adj V order known (st ++ [(s, i)])) : ∀ u ∈ st ++ [(s, i)], Ld adj u.1 s := by
  have key : ∀ (k : Nat) (pre post : List (α × Nat)), post.length = k → st ++ [(s, i)] = pre ++ post → ∀ u ∈ post, Ld adj u.1 s := by
    intro k
    induction k with
    | zero =>
      intro pre post hl _ u hu
      rw [List.eq_nil_of_length_eq_zero hl] at hu
      cases hu
    | succ k ih =>
      intro pre post hl e u hu
      cases post with
      | nil => cases hl
      | cons v post =>
        have e2 : st ++ [(s, i)] = (pre ++ [v]) ++ post := by rw [e, List.append_assoc]; rfl
        have rest := ih (pre ++ [v]) post (by simpa using hl) e2
        rcases List.mem_cons.mp hu with rfl | hu
        · cases post with
          | nil =>
            rw [List.append_nil] at e2
            have := List.append_inj_right' e2 rfl
            rw [← (List.cons.inj this).1]
            exact Ld.refl s
          | cons t post => exact (Ld.step (I.ch pre post u t e)).trans (rest t List.mem_cons_self)
        · exact rest u hu
  exact key _ [] _ rfl rfl
/-- the top is left -/
theorem DfI.leave {st : List (α × Nat)} {s : α} {i : Nat} (I : DfI adj V order known (st ++ [(s, i)])) (hi : (adj s).length ≤ i) : DfI adj V (order ++ [s]) known st := by
  have h0 := I.pl (s, i) (List.mem_append_right _ (List.mem_singleton.mpr rfl))
  have sk : ∀ b ∈ adj s, b ∈ known := fun b hb => by
    obtain ⟨j, hj⟩ := List.getElem?_of_mem hb
    exact h0.2 j b (Nat.lt_of_lt_of_le (List.getElem?_eq_some_iff.mp hj).1 hi) hj
  have fin' : ∀ a ∈ order ++ [s], ∀ b ∈ adj a, b ∈ known := fun a ha b hb => by
    rcases List.mem_append.mp ha with ha | ha
    · exact I.fin a ha b hb
    · rw [List.mem_singleton.mp ha] at hb
      exact sk b hb
  have kn' : ∀ x, x ∈ known ↔ x ∈ order ++ [s] ∨ x ∈ st.map (·.1) := fun x => by
    rw [I.kn x, List.map_append, List.map_cons, List.map_nil, List.mem_append, List.mem_append]
    constructor
    · rintro (h | h | h)
      · exact .inl (.inl h)
      · exact .inr h
      · exact .inl (.inr h)
    · rintro ((h | h) | h)
      · exact .inl h
      · exact .inr (.inr h)
      · exact .inr (.inl h)
  refine ⟨kn', ?_, I.kd, I.inV, fin', fun p x hx a ha b hb => ?_, fun pre post u t h => ?_, fun u hu => I.pl u (List.mem_append_left _ hu)⟩
  · have h := I.nd
    rw [List.map_append, List.map_cons, List.map_nil] at h
    refine (List.Perm.nodup_iff ?_).mp h
    rw [List.append_assoc]
    exact List.Perm.append_left _ List.perm_append_comm
  · by_cases hp : p < order.length
    · rw [List.getElem?_append_left hp] at hx
      rw [List.take_append_of_le_length hp] at ha ⊢
      exact I.F p x hx a ha b hb
    · have hl := (List.getElem?_eq_some_iff.mp hx).1
      rw [List.length_append, List.length_singleton] at hl
      have e : p = order.length := by omega
      subst e
      rw [List.getElem?_append_right (Nat.le_refl _), Nat.sub_self] at hx
      cases hx
      have et : (order ++ [s]).take (order.length + 1) = order ++ [s] := List.take_of_length_le (by rw [List.length_append]; exact Nat.le_refl _)
      rw [et] at ha ⊢
      rcases (kn' b).mp (fin' a ha b hb) with h | h
      · exact .inl h
      · obtain ⟨u, hu, rfl⟩ := List.mem_map.mp h
        exact .inr (I.chain u (List.mem_append_left _ hu))
  · exact I.ch pre (post ++ [(s, i)]) u t (by rw [h, List.append_assoc]; rfl)
/-- what is still to be done, where nothing leads on more than D times -/
def DfM (adj : α → List α) (V known : List α) (D : Nat) (stack : List (α × Nat)) : Nat := (V.length - known.length) * (D + 2) + (stack.map fun s => (adj s.1).length + 1 - s.2).sum
theorem sum_snoc (xs : List Nat) (x : Nat) : (xs ++ [x]).sum = xs.sum + x := by simp
theorem DfM.old {st : List (α × Nat)} {s : α} {i D : Nat} (h : i < (adj s).length) : DfM adj V known D (st ++ [(s, i + 1)]) < DfM adj V known D (st ++ [(s, i)]) := by
  unfold DfM
  rw [List.map_append, List.map_append, List.map_cons, List.map_nil, List.map_cons, List.map_nil, sum_snoc, sum_snoc]
  show _ + (_ + ((adj s).length + 1 - (i + 1))) < _ + (_ + ((adj s).length + 1 - i))
  omega
theorem DfM.leave {st : List (α × Nat)} {s : α} {i D : Nat} (h : i ≤ (adj s).length) : DfM adj V known D st < DfM adj V known D (st ++ [(s, i)]) := by
  unfold DfM
  rw [List.map_append, List.map_cons, List.map_nil, sum_snoc]
  show _ < _ + (_ + ((adj s).length + 1 - i))
  omega
theorem DfM.new {st : List (α × Nat)} {s b : α} {i D : Nat} (I : DfI adj V order known (st ++ [(s, i)])) (hk : b ∉ known) (hV : b ∈ V) (hD : (adj b).length ≤ D) (h : i < (adj s).length) : DfM adj V (known ++ [b]) D (st ++ [(s, i + 1)] ++ [(b, 0)]) < DfM adj V known D (st ++ [(s, i)]) := by
  unfold DfM
  have hl : (known ++ [b]).length ≤ V.length := nd_sub (by
    rw [List.nodup_append]
    exact ⟨I.kd, by simp, fun a ha b' hb' => by
      rw [List.mem_singleton] at hb'
      rintro rfl
      exact hk (hb' ▸ ha)⟩) fun x hx => (List.mem_append.mp hx).elim (I.inV x) fun h => by rw [List.mem_singleton.mp h]; exact hV
  rw [List.length_append, List.length_singleton] at hl ⊢
  rw [List.map_append, List.map_append, List.map_append, List.map_cons, List.map_nil, List.map_cons, List.map_nil, List.map_cons, List.map_nil, sum_snoc, sum_snoc, sum_snoc]
  show _ + (_ + ((adj s).length + 1 - (i + 1)) + ((adj b).length + 1 - 0)) < _ + (_ + ((adj s).length + 1 - i))
  have e : V.length - known.length = (V.length - (known.length + 1)) + 1 := by omega
  rw [e, Nat.add_mul, Nat.one_mul]
  omega
end

/-! ### lots of things that lead to one another -/
/-- all things of V numbered: the same number, and they lead to one another; no step leads to a lesser number -/
structure LotO (adj : α → List α) (V : List α) (nm : List (α × Nat)) : Prop where
  nd : (nm.map (·.1)).Nodup
  all : ∀ x, x ∈ V ↔ x ∈ nm.map (·.1)
  same : ∀ x y i, (x, i) ∈ nm → (y, i) ∈ nm → Ld adj x y
  up : ∀ x y i j, y ∈ adj x → (x, i) ∈ nm → (y, j) ∈ nm → i ≤ j
/-- between two first ones: n numbers are taken -/
structure LotI (adj : α → List α) (V done : List α) (n : Nat) (nm : List (α × Nat)) : Prop where
  nd : (nm.map (·.1)).Nodup
  inV : ∀ x ∈ nm.map (·.1), x ∈ V
  dn : ∀ x ∈ done, x ∈ nm.map (·.1)
  lt : ∀ p ∈ nm, p.2 < n
  pre : ∀ x ∈ V, ∀ y ∈ adj x, y ∈ nm.map (·.1) → x ∈ nm.map (·.1)
  same : ∀ x y i, (x, i) ∈ nm → (y, i) ∈ nm → Ld adj x y
  up : ∀ x y i j, y ∈ adj x → (x, i) ∈ nm → (y, j) ∈ nm → i ≤ j
/-- while a lot is gathered from r on: mm those of the lot, q those whose sources are still to be seen, S the sources seen of the one at hand -/
structure LotG (adj : α → List α) (V : List α) (r : α) (nm : List (α × Nat)) (mm q : List α) (c : Option α) (S : List α) : Prop where
  nd : (nm.map (·.1) ++ mm).Nodup
  inV : ∀ x ∈ mm, x ∈ V
  rm : r ∈ mm
  to : ∀ x ∈ mm, Ld adj x r
  qm : ∀ x ∈ q, x ∈ mm
  cm : ∀ x, c = some x → x ∈ mm
  pre : ∀ y ∈ mm, y ∉ q → c ≠ some y → ∀ x ∈ V, y ∈ adj x → x ∈ nm.map (·.1) ++ mm
  cS : ∀ y x, c = some y → x ∈ S → x ∈ nm.map (·.1) ++ mm
section
variable {V done mm q : List α} {nm : List (α × Nat)} {n : Nat} {r y : α} {S : List α}
theorem LotI.first (I : LotI adj V done n nm) (hr : r ∉ nm.map (·.1)) (hV : r ∈ V) : LotG adj V r nm [r] [r] none [] where
  nd := by
    rw [List.nodup_append]
    exact ⟨I.nd, by simp, fun a ha b hb => by
      rw [List.mem_singleton] at hb
      rintro rfl
      exact hr (hb ▸ ha)⟩
  inV := fun x hx => by rw [List.mem_singleton.mp hx]; exact hV
  rm := List.mem_singleton.mpr rfl
  to := fun x hx => by rw [List.mem_singleton.mp hx]; exact Ld.refl r
  qm := fun x hx => hx
  cm := fun x h => nomatch h
  pre := fun y hy hq => absurd hy hq
  cS := fun y x h => nomatch h
/-- the last of the queue is taken up -/
theorem LotG.take (G : LotG adj V r nm mm (q ++ [y]) none []) : LotG adj V r nm mm q (some y) [] where
  nd := G.nd
  inV := G.inV
  rm := G.rm
  to := G.to
  qm := fun x hx => G.qm x (List.mem_append_left _ hx)
  cm := fun x h => by
    cases h
    exact G.qm y (List.mem_append_right _ (List.mem_singleton.mpr rfl))
  pre := fun z hz hq hc => G.pre z hz (fun h => by
    rcases List.mem_append.mp h with h | h
    · exact hq h
    · exact hc (by rw [List.mem_singleton.mp h])) (fun h => nomatch h)
  cS := fun z x _ h => nomatch h
/-- a source that has a number -/
theorem LotG.old {x : α} (G : LotG adj V r nm mm q (some y) S) (hx : x ∈ nm.map (·.1) ++ mm) : LotG adj V r nm mm q (some y) (S ++ [x]) := { G with
  cS := fun z u h hu => by
    rcases List.mem_append.mp hu with hu | hu
    · exact G.cS z u h hu
    · rw [List.mem_singleton.mp hu]
      exact hx }
/-- a source without one -/
theorem LotG.new {x : α} (G : LotG adj V r nm mm q (some y) S) (hx : x ∉ nm.map (·.1) ++ mm) (hV : x ∈ V) (hy : y ∈ adj x) : LotG adj V r nm (mm ++ [x]) (q ++ [x]) (some y) (S ++ [x]) where
  nd := by
    rw [← List.append_assoc, List.nodup_append]
    exact ⟨G.nd, by simp, fun a ha b hb => by
      rw [List.mem_singleton] at hb
      rintro rfl
      exact hx (hb ▸ ha)⟩
  inV := fun z hz => (List.mem_append.mp hz).elim (G.inV z) fun h => by rw [List.mem_singleton.mp h]; exact hV
  rm := List.mem_append_left _ G.rm
  to := fun z hz => (List.mem_append.mp hz).elim (G.to z) fun h => by
    rw [List.mem_singleton.mp h]
    exact (Ld.step hy).trans (G.to y (G.cm y rfl))
  qm := fun z hz => (List.mem_append.mp hz).elim (fun h => List.mem_append_left _ (G.qm z h)) fun h => List.mem_append_right _ h
  cm := fun z h => List.mem_append_left _ (G.cm z h)
  pre := fun z hz hq hc u hu he => by
    rcases List.mem_append.mp hz with hz | hz
    · have := G.pre z hz (fun h => hq (List.mem_append_left _ h)) hc u hu he
      rw [← List.append_assoc]
      exact List.mem_append_left _ this
    · exact absurd (List.mem_append_right _ hz) hq
  cS := fun z u h hu => by
    rw [← List.append_assoc]
    rcases List.mem_append.mp hu with hu | hu
    · exact List.mem_append_left _ (G.cS z u h hu)
    · exact List.mem_append_right _ hu
/-- one that has a number already -/
theorem LotI.skip (I : LotI adj V done n nm) (hr : r ∈ nm.map (·.1)) : LotI adj V (done ++ [r]) n nm := { I with
  dn := fun x hx => (List.mem_append.mp hx).elim (I.dn x) fun h => by rw [List.mem_singleton.mp h]; exact hr }
/-- two that lead to one another have the same number -/
theorem LotO.eq (O : LotO adj V nm) (cl : ∀ x ∈ V, ∀ y ∈ adj x, y ∈ V) {x y : α} {i j : Nat} (hx : (x, i) ∈ nm) (hy : (y, j) ∈ nm) (h1 : Ld adj x y) (h2 : Ld adj y x) : i = j := by
  have mono : ∀ (k : Nat) (x y : α), LdN adj k x y → ∀ i j, (x, i) ∈ nm → (y, j) ∈ nm → i ≤ j := fun k x y h => by
    induction h with
    | nil x =>
      intro i j hi hj
      have : i = j := by
        have h1 := O.nd
        obtain ⟨a, ha⟩ := List.getElem?_of_mem hi
        obtain ⟨b, hb⟩ := List.getElem?_of_mem hj
        have e1 : (nm.map (·.1))[a]? = some x := by rw [List.getElem?_map, ha]; rfl
        have e2 : (nm.map (·.1))[b]? = some x := by rw [List.getElem?_map, hb]; rfl
        have := (List.getElem?_inj (List.getElem?_eq_some_iff.mp e1).1 h1).mp (e1.trans e2.symm)
        subst this
        rw [ha] at hb
        exact (Prod.mk.inj (Option.some.inj hb)).2
      omega
    | @cons n x y z h t ih =>
      intro i j hi hj
      have yV : y ∈ V := cl x ((O.all x).mpr (List.mem_map.mpr ⟨_, hi, rfl⟩)) y h
      obtain ⟨p, hp, e⟩ := List.mem_map.mp ((O.all y).mp yV)
      have hp' : (y, p.2) ∈ nm := by rw [← e]; exact hp
      have := O.up x y i p.2 h hi hp'
      have := ih p.2 j hp' hj
      omega
  obtain ⟨a, h1⟩ := h1
  obtain ⟨b, h2⟩ := h2
  have := mono a x y h1 i j hx hy
  have := mono b y x h2 j i hy hx
  omega
end
end
end DL

/-! FT: standings (a post, open atoms), moves between them, as they are gathered (own work). -/
namespace DL
open PySem L2 PySem.W PyProof.Rows

abbrev L3 := Str × Str × Str
abbrev Sd := Str × List Nat
/-- the moves of a standing -/
def sdSc (es : List L3) (m : Mc) (s : Sd) : List (Str × Sd) := (es.filter fun r => decide (r.2.1 = s.1) && !doneM m (begM m s.2 r.1)).map fun r => (r.1, (r.2.2, begM m s.2 r.1))
abbrev sdA (es : List L3) (m : Mc) (s : Sd) : List Sd := (sdSc es m s).map (·.2)
abbrev Mv := List (Sd × List (Str × Sd))
/-! ### gathering moves -/
structure MIn (es : List L3) (m : Mc) (ps : List Str) (n : Nat) (E : List (Str × Sd)) (qs : List Sd) (cs : List (List (Str × Sd))) : Prop where
  nd : qs.Nodup
  ini : ∀ p ∈ ps, (p, []) ∈ qs
  ln : cs.length = qs.length
  dn : ∀ (i : Nat) c, i < n → qs[i]? = some c → cs[i]? = some (sdSc es m c)
  at_ : ∀ c, qs[n]? = some c → cs[n]? = some E
  af : ∀ i, n < i → i < qs.length → cs[i]? = some []
  cl : ∀ l ∈ cs, ∀ e ∈ l, e.2 ∈ qs
  rc : ∀ s ∈ qs, ∃ p ∈ ps, Ld (sdA es m) (p, []) s
structure MvOk (es : List L3) (m : Mc) (ps : List Str) (mv : Mv) : Prop where
  nd : (mv.map (·.1)).Nodup
  ini : ∀ p ∈ ps, (p, []) ∈ mv.map (·.1)
  sc : ∀ x ∈ mv, x.2 = sdSc es m x.1
  cl : ∀ s ∈ mv.map (·.1), ∀ t ∈ sdA es m s, t ∈ mv.map (·.1)
  rc : ∀ s ∈ mv.map (·.1), ∃ p ∈ ps, Ld (sdA es m) (p, []) s
section
variable {es : List L3} {m : Mc} {ps : List Str} {n : Nat} {E : List (Str × Sd)} {qs : List Sd} {cs : List (List (Str × Sd))}
theorem MIn.old (I : MIn es m ps n E qs cs) {c : Sd} (hc : qs[n]? = some c) {e : Str × Sd} (h : e.2 ∈ qs) : MIn es m ps n (E ++ [e]) qs (cs.set n (E ++ [e])) where
  nd := I.nd
  ini := I.ini
  ln := by rw [List.length_set]; exact I.ln
  dn := fun i d hi hd => by
    rw [List.getElem?_set_ne (by omega)]
    exact I.dn i d hi hd
  at_ := fun d hd => by
    rw [List.getElem?_set_self (by rw [I.ln]; exact (List.getElem?_eq_some_iff.mp hc).1)]
  af := fun i hi hl => by
    rw [List.getElem?_set_ne (by omega)]
    exact I.af i hi hl
  cl := fun l hl f hf => by
    rcases List.mem_or_eq_of_mem_set hl with hl | rfl
    · exact I.cl l hl f hf
    · rcases List.mem_append.mp hf with hf | hf
      · exact I.cl E (List.mem_of_getElem? (I.at_ c hc)) f hf
      · rw [List.mem_singleton.mp hf]
        exact h
  rc := I.rc
theorem MIn.new (I : MIn es m ps n E qs cs) {c : Sd} (hc : qs[n]? = some c) {e : Str × Sd} (he : e.2 ∈ sdA es m c) (h : e.2 ∉ qs) : MIn es m ps n (E ++ [e]) (qs ++ [e.2]) (cs.set n (E ++ [e]) ++ [[]]) where
  nd := by
    rw [List.nodup_append]
    exact ⟨I.nd, by simp, fun a ha b hb => by
      rw [List.mem_singleton] at hb
      rintro rfl
      exact h (hb ▸ ha)⟩
  ini := fun p hp => List.mem_append_left _ (I.ini p hp)
  ln := by rw [List.length_append, List.length_set, List.length_append, I.ln]; rfl
  dn := fun i d hi hd => by
    have hl := (List.getElem?_eq_some_iff.mp hc).1
    rw [List.getElem?_append_left (by omega)] at hd
    rw [List.getElem?_append_left (by rw [List.length_set, I.ln]; omega), List.getElem?_set_ne (by omega)]
    exact I.dn i d hi hd
  at_ := fun d _ => by
    have hl := (List.getElem?_eq_some_iff.mp hc).1
    rw [List.getElem?_append_left (by rw [List.length_set, I.ln]; omega), List.getElem?_set_self (by rw [I.ln]; exact hl)]
  af := fun i hi hl => by
    rw [List.length_append, List.length_singleton] at hl
    by_cases g : i < qs.length
    · rw [List.getElem?_append_left (by rw [List.length_set, I.ln]; omega), List.getElem?_set_ne (by omega)]
      exact I.af i hi g
    · have : i = qs.length := by omega
      subst this
      rw [List.getElem?_append_right (by rw [List.length_set, I.ln]; exact Nat.le_refl _), List.length_set, I.ln, Nat.sub_self]
      rfl
  cl := fun l hl f hf => by
    rcases List.mem_append.mp hl with hl | hl
    · rcases List.mem_or_eq_of_mem_set hl with hl | rfl
      · exact List.mem_append_left _ (I.cl l hl f hf)
      · rcases List.mem_append.mp hf with hf | hf
        · exact List.mem_append_left _ (I.cl E (List.mem_of_getElem? (I.at_ c hc)) f hf)
        · rw [List.mem_singleton.mp hf]
          exact List.mem_append_right _ (List.mem_singleton.mpr rfl)
    · rw [List.mem_singleton.mp hl] at hf
      cases hf
  rc := fun s hs => by
    rcases List.mem_append.mp hs with hs | hs
    · exact I.rc s hs
    · rw [List.mem_singleton.mp hs]
      obtain ⟨p, hp, h⟩ := I.rc c (List.mem_of_getElem? hc)
      exact ⟨p, hp, h.tail he⟩
theorem MIn.next (I : MIn es m ps n E qs cs) (hE : ∀ c, qs[n]? = some c → E = sdSc es m c) : MIn es m ps (n + 1) [] qs cs where
  nd := I.nd
  ini := I.ini
  ln := I.ln
  dn := fun i d hi hd => by
    rcases Nat.lt_or_ge i n with g | g
    · exact I.dn i d g hd
    · have : i = n := by omega
      subst this
      rw [I.at_ d hd, hE d hd]
  at_ := fun d hd => I.af (n + 1) (Nat.lt_succ_self _) (List.getElem?_eq_some_iff.mp hd).1
  af := fun i hi hl => I.af i (by omega) hl
  cl := I.cl
  rc := I.rc
/-- standings met out of a row: no more than it has -/
theorem MIn.few (I : MIn es m ps n E qs cs) {N : List Sd} (h0 : ∀ p ∈ ps, (p, []) ∈ N) (hN : ∀ x ∈ N, ∀ y ∈ sdA es m x, y ∈ N) : qs.length ≤ N.length := nd_sub I.nd fun x hx => by
  obtain ⟨p, hp, k, hk⟩ := I.rc x hx
  exact hk.in_ hN (h0 p hp)
end
end DL

/-! FU: rows by standings and their lists, as data and as cells; what leads to each standing (own work). -/
namespace DL
open PySem L2 PySem.W PyProof.Rows

/-- where a standing leads -/
def mvA (mv : Mv) (s : Sd) : List Sd := match mv.find? fun x => decide (x.1 = s) with
  | some x => x.2.map (·.2)
  | none => []
theorem mvA_at {mv : Mv} (hn : (mv.map (·.1)).Nodup) {x : Sd × List (Str × Sd)} (h : x ∈ mv) : mvA mv x.1 = x.2.map (·.2) := by
  unfold mvA
  have : mv.find? (fun y => decide (y.1 = x.1)) = some x := by
    induction mv with
    | nil => cases h
    | cons y mv ih =>
      have hn2 := List.nodup_cons.mp (by rw [List.map_cons] at hn; exact hn)
      rw [List.find?_cons]
      rcases List.mem_cons.mp h with rfl | h
      · rw [decide_eq_true rfl]
      · have : ¬ y.1 = x.1 := fun e => hn2.1 (e ▸ List.mem_map.mpr ⟨x, h, rfl⟩)
        rw [decide_eq_false this]
        exact ih hn2.2 h
  rw [this]
theorem mvA_mem {mv : Mv} {s t : Sd} (h : t ∈ mvA mv s) : ∃ x ∈ mv, x.1 = s ∧ t ∈ x.2.map (·.2) := by
  unfold mvA at h
  cases e : mv.find? (fun x => decide (x.1 = s)) with
  | none => rw [e] at h; cases h
  | some x =>
    rw [e] at h
    exact ⟨x, List.mem_of_find?_eq_some e, by simpa using List.find?_some e, h⟩
/-- all moves without their lanes -/
def edR (mv : Mv) : List (Sd × Sd) := mv.flatMap fun x => x.2.map fun e => (x.1, e.2)
/-- moves that a walk may go through: told once each, none leads out, not too many -/
structure MvW (mv : Mv) : Prop where
  nd : (mv.map (·.1)).Nodup
  cl : ∀ x ∈ mv, ∀ e ∈ x.2, e.2 ∈ mv.map (·.1)
  few : (edR mv).length ≤ 90000
  mn : mv.length ≤ 40000
  rw : ∀ x ∈ mv, x.2.length ≤ 1000
theorem MvW.to {mv : Mv} (W : MvW mv) {s t : Sd} (h : t ∈ mvA mv s) : t ∈ mv.map (·.1) := by
  obtain ⟨x, hx, _, q⟩ := mvA_mem h
  obtain ⟨e, he, rfl⟩ := List.mem_map.mp q
  exact W.cl x hx e he
theorem DfI.few {adj : Sd → List Sd} {V order known : List Sd} {stack : List (Sd × Nat)} (I : DfI adj V order known stack) : order.length + stack.length ≤ V.length ∧ known.length ≤ V.length := by
  have h1 := nd_sub I.nd (ys := V) fun x hx => I.inV x ((I.kn x).mpr (List.mem_append.mp hx))
  rw [List.length_append, List.length_map] at h1
  exact ⟨h1, nd_sub I.kd fun x hx => I.inV x hx⟩
section
variable {wd : World} {K : PySem.W.Frag} {ro : Ro} {ka : Cells} {te : TE} {P R : W → Cells → Prop}
end
end DL

/-! FV: lanes on moves between standings of one number, dicts of dicts (own work). -/
namespace DL
open PySem L2 PySem.W PyProof.Rows

def edL (mv : Mv) : List (Sd × Str × Sd) := mv.flatMap fun x => x.2.map fun e => (x.1, e.1, e.2)
theorem edL_mem {mv : Mv} {s t : Sd} {l : Str} : (s, l, t) ∈ edL mv ↔ ∃ x ∈ mv, x.1 = s ∧ (l, t) ∈ x.2 := by
  unfold edL
  rw [List.mem_flatMap]
  constructor
  · rintro ⟨x, hx, h⟩
    obtain ⟨e, he, q⟩ := List.mem_map.mp h
    cases q
    exact ⟨x, hx, rfl, he⟩
  · rintro ⟨x, hx, rfl, h⟩
    exact ⟨x, hx, List.mem_map.mpr ⟨_, h, rfl⟩⟩
/-- the lanes on moves within a number -/
def ilL (nm : List (Sd × Nat)) (E : List (Sd × Str × Sd)) (n : Nat) : List Str := (E.filter fun e => decide ((e.1, n) ∈ nm) && decide ((e.2.2, n) ∈ nm)).map (·.2.1)
theorem ilL_in {nm : List (Sd × Nat)} {E : List (Sd × Str × Sd)} {n : Nat} {e : Sd × Str × Sd} (h1 : (e.1, n) ∈ nm) (h2 : (e.2.2, n) ∈ nm) : ilL nm (E ++ [e]) n = ilL nm E n ++ [e.2.1] := by
  unfold ilL
  rw [List.filter_append, List.map_append, List.filter_cons, decide_eq_true h1, decide_eq_true h2]
  rfl
theorem ilL_out {nm : List (Sd × Nat)} {E : List (Sd × Str × Sd)} {n : Nat} {e : Sd × Str × Sd} (h : ¬ ((e.1, n) ∈ nm ∧ (e.2.2, n) ∈ nm)) : ilL nm (E ++ [e]) n = ilL nm E n := by
  unfold ilL
  rw [List.filter_append, List.map_append, List.filter_cons]
  have : (decide ((e.1, n) ∈ nm) && decide ((e.2.2, n) ∈ nm)) = false := by
    rw [← Bool.not_eq_true, Bool.and_eq_true, decide_eq_true_eq, decide_eq_true_eq]
    exact h
  rw [this]
  exact List.append_nil _
theorem ilL_mem {nm : List (Sd × Nat)} {E : List (Sd × Str × Sd)} {n : Nat} {l : Str} : l ∈ ilL nm E n ↔ ∃ s t, (s, l, t) ∈ E ∧ (s, n) ∈ nm ∧ (t, n) ∈ nm := by
  unfold ilL
  rw [List.mem_map]
  constructor
  · rintro ⟨⟨s, l', t⟩, h, rfl⟩
    obtain ⟨h1, h2⟩ := List.mem_filter.mp h
    rw [Bool.and_eq_true, decide_eq_true_eq, decide_eq_true_eq] at h2
    exact ⟨s, t, h1, h2⟩
  · rintro ⟨s, t, h, h1, h2⟩
    exact ⟨(s, l, t), List.mem_filter.mpr ⟨h, by rw [decide_eq_true h1, decide_eq_true h2]; rfl⟩, rfl⟩
/-- two numbers of one standing are the same -/
theorem num_one {nm : List (Sd × Nat)} (hn : (nm.map (·.1)).Nodup) {s : Sd} {i j : Nat} (h1 : (s, i) ∈ nm) (h2 : (s, j) ∈ nm) : i = j := by
  induction nm with
  | nil => cases h1
  | cons x nm ih =>
    have hn2 := List.nodup_cons.mp (by rw [List.map_cons] at hn; exact hn)
    rcases List.mem_cons.mp h1 with e1 | h1 <;> rcases List.mem_cons.mp h2 with e2 | h2
    · rw [← e1] at e2
      exact (Prod.mk.inj e2).2.symm
    · exact absurd (List.mem_map.mpr ⟨_, h2, by rw [← e1]⟩) hn2.1
    · exact absurd (List.mem_map.mpr ⟨_, h1, by rw [← e2]⟩) hn2.1
    · exact ih hn2.2 h1 h2
/-! ### dicts behind numbers -/
/-- each number: its dict's place among those made -/
def ilR (as : List Addr) (rows : List (Nat × Nat)) : List (Key × D) := rows.map fun r => (Sum.inl (r.1 : Int), D.adr (as[r.2]?.getD 0))
structure IlR (nm : List (Sd × Nat)) (len : Nat) (rows : List (Nat × Nat)) : Prop where
  n1 : (rows.map (·.1)).Nodup
  n2 : (rows.map (·.2)).Nodup
  lt : ∀ r ∈ rows, r.2 < len
  mem : ∀ n, n ∈ rows.map (·.1) ↔ n ∈ nm.map (·.2)
theorem int_inl {i j : Nat} (h : (Sum.inl (i : Int) : Key) = Sum.inl (j : Int)) : i = j := by
  injection h with h
  omega
theorem ilR_has {as : List Addr} {rows : List (Nat × Nat)} {n : Nat} : hasT (ilR as rows) (Sum.inl (n : Int)) = decide (n ∈ rows.map (·.1)) := by
  rw [Bool.eq_iff_iff, decide_eq_true_eq]
  unfold hasT ilR
  rw [List.any_map, List.any_eq_true]
  constructor
  · rintro ⟨r, hr, h⟩
    exact List.mem_map.mpr ⟨r, hr, int_inl (of_decide_eq_true h)⟩
  · intro h
    obtain ⟨r, hr, rfl⟩ := List.mem_map.mp h
    exact ⟨r, hr, decide_eq_true rfl⟩
theorem ilR_more {as : List Addr} {rows : List (Nat × Nat)} {a : Addr} (h : ∀ r ∈ rows, r.2 < as.length) : ilR (as ++ [a]) rows = ilR as rows := by
  unfold ilR
  refine List.map_congr_left fun r hr => ?_
  rw [List.getElem?_append_left (h r hr)]
theorem IlR.put {nm : List (Sd × Nat)} {i : Nat} {rows : List (Nat × Nat)} (I : IlR (nm.take i) i rows) {x : Sd × Nat} (h : nm[i]? = some x) {as : List Addr} (hl : as.length = i) (a : Addr) : ∃ rows', putT (ilR as rows) (Sum.inl (x.2 : Int)) (.adr a) = ilR (as ++ [a]) rows' ∧ IlR (nm.take (i + 1)) (i + 1) rows' := by
  have hlt : ∀ r ∈ rows, r.2 < as.length := fun r hr => by rw [hl]; exact I.lt r hr
  have hmem : ∀ n, n ∈ (nm.take (i + 1)).map (·.2) ↔ n ∈ (nm.take i).map (·.2) ∨ n = x.2 := fun n => by
    rw [take_succ_some h, List.map_append, List.mem_append]
    simp
  by_cases hx : x.2 ∈ rows.map (·.1)
  · refine ⟨rows.map fun r => if r.1 = x.2 then (r.1, i) else r, ?_, ?_, ?_, ?_, fun n => ?_⟩
    · unfold putT
      rw [ilR_has, if_pos (decide_eq_true hx)]
      unfold ilR
      rw [List.map_map, List.map_map]
      refine List.map_congr_left fun r hr => ?_
      simp only [Function.comp, newAt]
      by_cases e : r.1 = x.2
      · rw [if_pos (by rw [e]), if_pos e]
        simp only
        rw [List.getElem?_append_right (by omega), hl, Nat.sub_self]
        rfl
      · rw [if_neg (fun z => e (int_inl z)), if_neg e, List.getElem?_append_left (hlt r hr)]
    · rw [List.map_map, show ((fun x => x.1) ∘ fun r : Nat × Nat => if r.1 = x.2 then (r.1, i) else r) = fun r => r.1 from funext fun r => by simp only [Function.comp]; split <;> rfl]
      exact I.n1
    · have n1 := I.n1
      have n2 := I.n2
      have lt := I.lt
      clear hmem hlt hx I
      induction rows with
      | nil => exact List.nodup_nil
      | cons r rows ih =>
        rw [List.map_cons] at n1 n2
        have q1 := List.nodup_cons.mp n1
        have q2 := List.nodup_cons.mp n2
        rw [List.map_cons, List.map_cons, List.nodup_cons]
        refine ⟨fun hm => ?_, ih q1.2 q2.2 fun r hr => lt r (List.mem_cons_of_mem _ hr)⟩
        rw [List.map_map] at hm
        obtain ⟨r', h1, h2⟩ := List.mem_map.mp hm
        have l1 := lt r List.mem_cons_self
        have l2 := lt r' (List.mem_cons_of_mem _ h1)
        simp only [Function.comp] at h2
        by_cases e : r.1 = x.2 <;> by_cases e' : r'.1 = x.2
        · exact q1.1 (e.trans e'.symm ▸ List.mem_map.mpr ⟨r', h1, rfl⟩)
        · rw [if_pos e, if_neg e'] at h2
          simp only at h2
          omega
        · rw [if_neg e, if_pos e'] at h2
          simp only at h2
          omega
        · rw [if_neg e, if_neg e'] at h2
          exact q2.1 (h2 ▸ List.mem_map.mpr ⟨r', h1, rfl⟩)
    · intro r hr
      obtain ⟨r', h1, rfl⟩ := List.mem_map.mp hr
      have := I.lt r' h1
      split
      · exact Nat.lt_succ_self _
      · omega
    · rw [hmem, ← I.mem, List.map_map, show ((fun x => x.1) ∘ fun r : Nat × Nat => if r.1 = x.2 then (r.1, i) else r) = fun r => r.1 from funext fun r => by simp only [Function.comp]; split <;> rfl]
      exact ⟨.inl, fun h => h.elim id fun e => e ▸ hx⟩
  · refine ⟨rows ++ [(x.2, i)], ?_, ?_, ?_, ?_, fun n => ?_⟩
    · unfold putT
      rw [ilR_has, if_neg (by simpa using hx)]
      conv => lhs; rw [← ilR_more (a := a) hlt]
      unfold ilR
      rw [List.map_append, List.map_cons, List.map_nil]
      simp only
      rw [List.getElem?_append_right (by omega), hl, Nat.sub_self]
      rfl
    · rw [List.map_append, List.nodup_append]
      refine ⟨I.n1, by simp, fun u hu v hv => ?_⟩
      rw [List.map_cons, List.map_nil, List.mem_singleton] at hv
      have hv : v = x.2 := hv
      rintro rfl
      exact hx (hv ▸ hu)
    · rw [List.map_append, List.nodup_append]
      refine ⟨I.n2, by simp, fun u hu v hv => ?_⟩
      rw [List.map_cons, List.map_nil, List.mem_singleton] at hv
      obtain ⟨r, hr, rfl⟩ := List.mem_map.mp hu
      have := I.lt r hr
      omega
    · intro r hr
      rcases List.mem_append.mp hr with hr | hr
      · have := I.lt r hr
        omega
      · rw [List.mem_singleton.mp hr]
        exact Nat.lt_succ_self _
    · rw [hmem, ← I.mem, List.map_append, List.mem_append]
      simp
/-- what each number's dict holds behind some moves -/
structure IlS (nm : List (Sd × Nat)) (rows : List (Nat × Nat)) (len : Nat) (E : List (Sd × Str × Sd)) (ls : List (List Str)) : Prop where
  ln : ls.length = len
  at_ : ∀ r ∈ rows, ls[r.2]? = some (dedS (ilL nm E r.1))
theorem IlS.skip {nm : List (Sd × Nat)} {rows : List (Nat × Nat)} {len : Nat} {E : List (Sd × Str × Sd)} {ls : List (List Str)} (I : IlS nm rows len E ls) {e : Sd × Str × Sd} (h : ∀ n, ¬ ((e.1, n) ∈ nm ∧ (e.2.2, n) ∈ nm)) : IlS nm rows len (E ++ [e]) ls where
  ln := I.ln
  at_ := fun r hr => by rw [ilL_out (h r.1)]; exact I.at_ r hr
theorem IlS.more {nm : List (Sd × Nat)} {rows : List (Nat × Nat)} {len : Nat} {E : List (Sd × Str × Sd)} {ls : List (List Str)} (I : IlS nm rows len E ls) (hn : (nm.map (·.1)).Nodup) (n1 : (rows.map (·.1)).Nodup) (n2 : (rows.map (·.2)).Nodup) {e : Sd × Str × Sd} {r : Nat × Nat} (hr : r ∈ rows) (h1 : (e.1, r.1) ∈ nm) (h2 : (e.2.2, r.1) ∈ nm) : IlS nm rows len (E ++ [e]) (ls.set r.2 (dedS (ilL nm E r.1 ++ [e.2.1]))) where
  ln := by rw [List.length_set]; exact I.ln
  at_ := fun r' hr' => by
    have hl := (List.getElem?_eq_some_iff.mp (I.at_ r hr)).1
    by_cases e' : r'.1 = r.1
    · have : r' = r := nd_inj n1 hr' hr e'
      subst this
      rw [List.getElem?_set_self hl, ilL_in h1 h2]
    · have hne : r.2 ≠ r'.2 := fun z => e' (by rw [nd_inj n2 hr' hr z.symm])
      rw [List.getElem?_set_ne hne, ilL_out fun ⟨q1, _⟩ => e' (num_one hn q1 h1)]
      exact I.at_ r' hr'
where
  nd_inj {f : Nat × Nat → Nat} {rows : List (Nat × Nat)} (n : (rows.map f).Nodup) {a b : Nat × Nat} (ha : a ∈ rows) (hb : b ∈ rows) (h : f a = f b) : a = b := by
    induction rows with
    | nil => cases ha
    | cons x rows ih =>
      have q := List.nodup_cons.mp (by rw [List.map_cons] at n; exact n)
      rcases List.mem_cons.mp ha with e1 | h1 <;> rcases List.mem_cons.mp hb with e2 | h2
      · rw [e1, e2]
      · exact absurd (List.mem_map.mpr ⟨b, h2, by rw [← h, e1]⟩) q.1
      · exact absurd (List.mem_map.mpr ⟨a, h1, by rw [h, e2]⟩) q.1
      · exact ih q.2 h1 h2
end DL
namespace DL
open PySem L2 PySem.W PyProof.Rows
/-! ### a round along moves that takes all wanted lanes -/
def AvN (nm : List (Sd × Nat)) (E : List (Sd × Str × Sd)) (gs : List Str) (d : D) : Prop :=
  (d = .non ∧ ∀ n ∈ nm.map (·.2), ¬ ∀ g ∈ gs, g ∈ ilL nm E n) ∨ ∃ n : Nat, d = .int (n : Int) ∧ n ∈ nm.map (·.2) ∧ ∀ g ∈ gs, g ∈ ilL nm E n
/-- a standing from which each wanted lane can be taken, and back -/
def AvP (mv : Mv) (gs : List Str) : Prop := ∃ s ∈ mv.map (·.1), ∀ g ∈ gs, ∃ u v, (u, g, v) ∈ edL mv ∧ Ld (mvA mv) s u ∧ Ld (mvA mv) v s
open Classical in
noncomputable def avB (mv : Mv) (gs : List Str) : Bool := decide (AvP mv gs)
open Classical in
theorem avB_iff {mv : Mv} {gs : List Str} : avB mv gs = true ↔ AvP mv gs := decide_eq_true_iff
theorem MvW.lane {mv : Mv} (V : MvW mv) {u v : Sd} {g : Str} (h : (u, g, v) ∈ edL mv) : v ∈ mvA mv u ∧ u ∈ mv.map (·.1) := by
  obtain ⟨x, hx, rfl, he⟩ := edL_mem.mp h
  exact ⟨by rw [mvA_at V.nd hx]; exact List.mem_map.mpr ⟨_, he, rfl⟩, List.mem_map.mpr ⟨x, hx, rfl⟩⟩
theorem LotO.few {mv : Mv} {nm : List (Sd × Nat)} (O : LotO (mvA mv) (mv.map (·.1)) nm) : nm.length ≤ mv.length := by
  have := nd_sub O.nd (ys := mv.map (·.1)) fun x hx => (O.all x).mpr hx
  rw [List.length_map, List.length_map] at this
  exact this
theorem AvN.told {mv : Mv} {nm : List (Sd × Nat)} {gs : List Str} {d : D} (V : MvW mv) (O : LotO (mvA mv) (mv.map (·.1)) nm) (h : AvN nm (edL mv) gs d) : isNonD d = !avB mv gs := by
  have key : AvP mv gs ↔ ∃ n ∈ nm.map (·.2), ∀ g ∈ gs, g ∈ ilL nm (edL mv) n := by
    constructor
    · rintro ⟨s, hs, hg⟩
      obtain ⟨⟨s', n⟩, hsn, e⟩ := List.mem_map.mp ((O.all s).mp hs)
      simp only at e
      subst e
      refine ⟨n, List.mem_map.mpr ⟨_, hsn, rfl⟩, fun g hgm => ?_⟩
      obtain ⟨u, v, he, h1, h2⟩ := hg g hgm
      obtain ⟨hv, hu⟩ := V.lane he
      obtain ⟨⟨u', i⟩, hui, e⟩ := List.mem_map.mp ((O.all u).mp hu)
      simp only at e
      subst e
      obtain ⟨⟨v', j⟩, hvj, e⟩ := List.mem_map.mp ((O.all v).mp (V.to hv))
      simp only at e
      subst e
      have cl : ∀ x ∈ mv.map (·.1), ∀ y ∈ mvA mv x, y ∈ mv.map (·.1) := fun x _ y hy => V.to hy
      have e1 := O.eq cl hsn hui h1 ((Ld.step hv).trans h2)
      have e2 := O.eq cl hsn hvj (h1.tail hv) h2
      subst e1 e2
      exact ilL_mem.mpr ⟨_, _, he, hui, hvj⟩
    · rintro ⟨n, hn, hg⟩
      obtain ⟨⟨s, n'⟩, hsn, e⟩ := List.mem_map.mp hn
      simp only at e
      subst e
      refine ⟨s, (O.all s).mpr (List.mem_map.mpr ⟨_, hsn, rfl⟩), fun g hgm => ?_⟩
      obtain ⟨u, v, he, h1, h2⟩ := ilL_mem.mp (hg g hgm)
      exact ⟨u, v, he, O.same _ _ _ hsn h1, O.same _ _ _ h2 hsn⟩
  rcases h with ⟨rfl, h⟩ | ⟨n, rfl, h1, h2⟩
  · have : avB mv gs = false := by
      rw [← Bool.not_eq_true, avB_iff]
      intro hp
      obtain ⟨n, hn, hg⟩ := key.mp hp
      exact h n hn hg
    rw [this]
    rfl
  · rw [avB_iff.mpr (key.mpr ⟨n, h1, h2⟩)]
    rfl
section
variable {K : PySem.W.Frag} {ro : Ro} {ka k1 : Cells} {te : TE} {P : W → Cells → Prop} {bb : Bool}
end
end DL

/-! FW: an own object as a test (own work). -/
namespace DL
open PySem L2 PySem.Spec PyProof.Rows PySem.W
section
variable {X : Cx} {k : Nat} {C f : Addr} {ps : List Str} {E : XK} {Ct' : Ct} {e : Expr} {te : TE}
end
end DL

/-! FX: comprehensions over enumerated sequences of one kind; rows of numbers compared (own work). -/
namespace DL
open PySem L2 PySem.Spec PyProof.Rows PySem.W
section
variable {K : PySem.W.Frag} {ro : Ro} {ka k1 k2 k3 : Cells} {te tf : TE} {tt : TT} {j l : Nat} {x y w : W}
end
section
variable {X : Cx}
end
section
variable {K : PySem.W.Frag} {ro : Ro} {ka k1 k2 : Cells} {te tf : TE} {y : W}
end
section
variable {K : PySem.W.Frag} {ro : Ro} {ka k1 k2 : Cells} {te tf : TE} {y w : W}
end
/-! ### what is told of a locked dict's keys; a dict within a dict -/
section
variable {K : PySem.W.Frag} {ro : Ro} {ka : Cells} {te tg : TE} {tt : TT} {j : Nat} {vs : List Nat}
end
section
variable {K : PySem.W.Frag} {B F0 : Hp} {ro : Ro} {ka : Cells} {ta : List (V × W)} {td ty tv : TE} {De : Ends} {a : Addr} {wd : World} {ks : List NestedKey} {P : W → Cells → Prop}
end
section
variable {K : PySem.W.Frag} {ro : Ro} {ka k1 : Cells} {te : TE} {tt : TT} {j l : Nat} {vs : List Nat}
end
end DL

/-! FY: own errors with three fields (own work). -/
namespace DL
open PySem L2 PySem.Spec PyProof.Rows PySem.W
/-- __init__(self, x, y, z): self.f = x; self.g = y; self.h = z -/
def spI3 (K : PySem.W.Frag) (C : Addr) (f1 f2 f3 : Str) : Sp := fun vs H Q _ => ∃ a y1 y2 y3, vs = [.ref a, y1, y2, y3] ∧ OexC K C ∧ findIn K (.ref C) f1 = some none ∧ findIn K (.ref C) f2 = some none ∧ findIn K (.ref C) f3 = some none ∧ H a = some (exo a C none) ∧
  ∀ d, H d = none → d ≠ a → Q .non (upd (upd (upd (upd H d (exd d [(f1, y1)])) a (exo a C (some d))) d (exd d [(f2, y2), (f1, y1)])) d (exd d [(f3, y3), (f2, y2), (f1, y1)]))
section
variable {K : PySem.W.Frag} {B F F0 : Hp} {ro : Ro} {ka k1 : Cells} {ta : List (V × W)} {sg : L2.St} {H H' : Hp} {tr : TA} {C : Addr} {f1 f2 f3 : Str} {d1 d2 d3 : D} {De : Ends}
end
/-- an own error with three fields -/
structure X3 (P : Program) (w : World) (K : PySem.W.Frag) (mg : Str → Option Value) (base : Heap) (C : Addr) (f1 f2 f3 : Str) : Prop where
  xc : Xc K C
  n1 : findIn K (.ref C) f1 = some none
  n2 : findIn K (.ref C) f2 = some none
  n3 : findIn K (.ref C) f3 = some none
  ex : ∃ fI fd x y z, findIn K (.ref C) "__init__" = some (some (.ref fI)) ∧ typeIn K (.ref fI) = some (.type "function") ∧ FnOk P w K mg base (L2.CX P w) 1 fI fd ["self", x, y, z] (spI3 K C f1 f2 f3) ∧ Binds K fd ["self", x, y, z] []
namespace X3
variable {P : Program} {w : World} {K : PySem.W.Frag} {mg : Str → Option Value} {base : Heap} {C : Addr} {f1 f2 f3 : Str}
noncomputable def fI (Z : X3 P w K mg base C f1 f2 f3) : Addr := Classical.choose Z.ex
noncomputable def fd (Z : X3 P w K mg base C f1 f2 f3) : FuncData := Classical.choose (Classical.choose_spec Z.ex)
noncomputable def px (Z : X3 P w K mg base C f1 f2 f3) : Str := Classical.choose (Classical.choose_spec (Classical.choose_spec Z.ex))
noncomputable def py (Z : X3 P w K mg base C f1 f2 f3) : Str := Classical.choose (Classical.choose_spec (Classical.choose_spec (Classical.choose_spec Z.ex)))
noncomputable def pz (Z : X3 P w K mg base C f1 f2 f3) : Str := Classical.choose (Classical.choose_spec (Classical.choose_spec (Classical.choose_spec (Classical.choose_spec Z.ex))))
theorem all (Z : X3 P w K mg base C f1 f2 f3) : findIn K (.ref C) "__init__" = some (some (.ref Z.fI)) ∧ typeIn K (.ref Z.fI) = some (.type "function") ∧ FnOk P w K mg base (L2.CX P w) 1 Z.fI Z.fd ["self", Z.px, Z.py, Z.pz] (spI3 K C f1 f2 f3) ∧ Binds K Z.fd ["self", Z.px, Z.py, Z.pz] [] :=
  Classical.choose_spec (Classical.choose_spec (Classical.choose_spec (Classical.choose_spec (Classical.choose_spec Z.ex))))
end X3
end DL

/-! FZ: statements that are never reached (own work). -/
namespace DL
open PySem L2 PySem.Spec PyProof.Rows PySem.W
end DL

/-! GA: d.setdefault(text, []), d.clear(), cells behind tuples (own work). -/
namespace DL
open PySem L2 PySem.W PyProof.Rows
section
variable {K : PySem.W.Frag} {B F F0 H H' : Hp} {ro ro' : Ro} {ka k1 k2 kr kt : Cells} {ta : List (V × W)} {sg : L2.St} {te td ty tx : TE} {a : Addr} {De : Ends} {u : TS}
/-! ### what stands in a slot, its cells told as what they stand for -/
/-- d, with the cells kt, is the data e -/
def FzT (K : PySem.W.Frag) (kt : Cells) (d e : D) : Prop := ∀ F H v, Nz F → Thw K F H kt → Rp K F d v → Rp K (thF F H kt) e v
theorem FzT.same (d : D) : FzT K kt d d := fun F H v nz t h => Rp.mono (thF_sub t.no).exz nz _ _ h
theorem FzT.adr {d : D} (h : FrzD K kt a d) : FzT K kt (.adr a) d := fun F H v nz t e => by
  obtain rfl : v = .ref a := e
  exact h F H nz t
theorem FzT.tup {ds es : List D} (h : FzL K kt ds es) : FzT K kt (.tup ds) (.tup es) := fun F H v nz t ⟨b, xs, e1, h1, h2⟩ => ⟨b, xs, e1, h1.elim (fun q => .inl (q.elim (fun q => .inl (thF_sub t.no _ _ q)) fun ⟨z, q⟩ => .inr ⟨z, thF_sub t.no _ _ q⟩)) .inr, h.rp nz t h2⟩
/-- a slot with cells behind it, told as data -/
theorem Gp.frzU {i : Nat} {d e : D} {Pp : L2.St → Hp → Prop} (kt : Cells) (hi : ro[i]? = some (some (.val d))) (hp : (kr ++ kt).Perm ka) (kd : ∀ p ∈ kt, ndK p.2 = true) (r : FzT K kt d e) (h : Gp K B F0 ta Pp (ro.set i (some (.val e))) kr) : Gp K B F0 ta Pp ro ka := fun sg H e0 => by
  obtain ⟨F, g, ef⟩ := e0.perm hp
  obtain ⟨g2, e2⟩ := ef.frzT kd RoT.refl
  obtain ⟨v, h1, h2⟩ := ef.sl i _ hi
  have hv := r F H v ef.nz (ef.thw kd) h2
  refine h sg H ⟨_, g.trans g2, { e2 with ln := by rw [List.length_set]; exact e2.ln, sl := fun j w hw => ?_ }⟩
  rw [List.getElem?_set] at hw
  split at hw
  · rename_i ej
    subst ej
    split at hw
    · cases hw
      exact ⟨v, h1, hv⟩
    · cases hw
  · exact e2.sl j w hw
/-- the same of what a word tells -/
theorem EvR.frzU {R P2 : W → Cells → Prop} (h : EvR K te ro ka R) (hR : ∀ w k, R w k → ∃ (d e : D) (kt k1 : Cells), w = .val d ∧ (k1 ++ kt).Perm k ∧ (∀ p ∈ kt, ndK p.2 = true) ∧ FzT K kt d e ∧ P2 (.val e) k1) : EvR K te ro ka P2 := fun B F0 ta sg H Q e q => h B F0 ta sg H _ e fun w k v H1 r e1 => by
  obtain ⟨d, e', kt, k1, rfl, hp, kd, z, p2⟩ := hR w k r
  obtain ⟨F, g, ef⟩ := e1.perm hp
  obtain ⟨g2, e2⟩ := ef.frzT kd RoT.refl
  have hv := z F H1 v ef.nz (ef.thw kd) (ef.tm (v, .val d) List.mem_cons_self)
  exact q (.val e') k1 v H1 p2 ⟨_, g.trans g2, (e2.held (ta' := ta) fun p hp => List.mem_cons_of_mem _ hp).push hv⟩
end
end DL
namespace DL
open PySem L2 PySem.Spec PyProof.Rows PySem.W
end DL

/-! GB: generators that raise ahead of their first yield (own work). -/
namespace DL
open PySem L2 PySem.Spec PyProof.Rows PySem.W
/-- how a generator ends that gives nothing: by its contract, which knows no return -/
def spGX (K : PySem.W.Frag) (C : Ct) : SpG := fun vs H _ E => spC K C vs H (fun _ _ => False) E
def GFx (P : Program) (w : World) (K : PySem.W.Frag) (mg : Str → Option Value) (base : Heap) (k : Nat) (f : Addr) (ps : List Str) (C : Ct) : Prop := ∃ fd, GFn P w K mg base k f fd ps (spGX K C) ∧ L2.Binds K fd ps []
noncomputable def GFx.fd {P : Program} {w : World} {K : PySem.W.Frag} {mg : Str → Option Value} {base : Heap} {f : Addr} {ps : List Str} {k : Nat} {C : Ct} (F : GFx P w K mg base k f ps C) : FuncData := Classical.choose F
theorem GFx.ok {P : Program} {w : World} {K : PySem.W.Frag} {mg : Str → Option Value} {base : Heap} {f : Addr} {ps : List Str} {k : Nat} {C : Ct} (F : GFx P w K mg base k f ps C) : GFn P w K mg base k f F.fd ps (spGX K C) := (Classical.choose_spec F).1
theorem GFx.bn {P : Program} {w : World} {K : PySem.W.Frag} {mg : Str → Option Value} {base : Heap} {f : Addr} {ps : List Str} {k : Nat} {C : Ct} (F : GFx P w K mg base k f ps C) : L2.Binds K F.fd ps [] := (Classical.choose_spec F).2
section
variable {P : Program} {w : World} {K : PySem.W.Frag} {mg : Str → Option Value} {base : Heap} {f : Addr} {fd : FuncData} {x qual : Str} {params : Arguments} {st : Stmt} {rest body : List Stmt} {scope : Scope} {ps N : List Str} {k j : Nat} {C : Ct}
end
section
variable {K : PySem.W.Frag} {ro : Ro} {ka k2 : Cells} {tr : TA} {Cc : Ct} {E : XK} {C1 : Addr} {gs : List (Str × D)}
end
section
variable {K : PySem.W.Frag} {ro : Ro} {ka k1 k2 k3 kr : Cells} {te tf : TE} {tr : TA} {Cc : Ct} {E : XK} {C C1 : Addr} {gs : List (Str × D)} {w : W} {ws : List W}
end
end DL

/-! GC: targets that are fields, items of own objects set by their class (own work). -/
namespace DL
open PySem L2 PySem.W
section
variable {X : Cx} {k : Nat} {C f : Addr} {ps : List Str} {E : XK} {Ct' : Ct} {pos : Pos} {o : Expr} {to : TE} {x : Str}
end
section
variable {K : PySem.W.Frag} {B F0 : Hp} {ro : Ro} {ka k1 k2 k3 kr k4 : Cells} {ta : List (V × W)} {te tf tg : TE} {tr : TA} {w x y z : W} {a C : Addr} {De : Ends} {u : TS} {fs : List (Str × D)} {d d1 d2 : D} {i j : Nat} {f : Str}
/-- C(..), arguments and end told by words -/
theorem evr_makeAR {Cc : Ct} {E : XK} {R : List W → Cells → Prop} {P2 : W → Cells → Prop} (ha : EvAR K tr ro ka R)
    (hC : ∀ ws k, R ws k → ∀ a, ∃ (k1 kr : Cells) (out : Oc), (k1 ++ kr).Perm k ∧ Cc (.val (.adr a) :: ws) (k1 ++ [(a, .ins C [])]) out ∧ ∀ o k', out o k' → o = .ret .non ∧ P2 (.val (.adr a)) (k' ++ kr)) : EvR K (tMake C (spC K Cc) [] E tr) ro ka P2 := fun B F0 ta sg H Q e q =>
  ha B F0 ta sg H _ e fun ws k vs H1 r hl e1 => by
    intro p dx hx hdx hne
    obtain ⟨k1, kr, out, hp, hC, ho⟩ := hC ws k r p
    obtain ⟨F, g, e1⟩ := e1.perm hp
    obtain ⟨e2, g2⟩ := e1.lay (o := .own p) hdx rfl
    have hx2 : upd H1 dx (.own p) p = none := by rw [upd_ne (Ne.symm hne)]; exact hx
    have e3 := e2.cell (o := .ins C dx []) hx2 (n := .ins C []) ⟨dx, [], upd_same, rfl⟩
    have e4 : En K B F0 ro ((k1 ++ [(p, .ins C [])]) ++ kr) (vs.zip ws ++ ta) sg (upd (upd H1 dx (.own p)) p (.ins C dx [])) := by
      refine En.perm (ka := k1 ++ kr ++ [(p, .ins C [])]) ⟨_, g.trans g2, e3⟩ ?_
      rw [List.append_assoc, List.append_assoc]
      exact List.Perm.append_left _ List.perm_append_comm
    have e5 : En K B F0 ro ((k1 ++ [(p, .ins C [])]) ++ kr) ((V.ref p :: vs).zip (W.val (.adr p) :: ws) ++ ta) sg (upd (upd H1 dx (.own p)) p (.ins C dx [])) := e4.push_imm (v := .ref p) (w := .val (.adr p)) fun _ => rfl
    rw [List.append_nil]
    refine sp_rel e5 (by rw [List.length_cons, List.length_cons, hl]) hC (fun o k h => ⟨_, (ho o k h).1⟩) fun d k2 v' H' o e6 => ?_
    obtain ⟨he, p2⟩ := ho _ _ o
    cases he
    exact ⟨e6.tm_non List.mem_cons_self, q (.val (.adr p)) (k2 ++ kr) (.ref p) H' p2 (e6.pop.push_imm fun _ => rfl)⟩
end
end DL

/-! GD: x op= y of an own class within a try whose clauses read slots (own work). -/
namespace DL
open PySem L2 PySem.W
/-- x op= y, where what is raised may speak of the slots -/
def tAugAt (i : Nat) (te : TE) (t : L2.St → TIp) : TS := fun D σ H => tVar i σ H fun x H1 => te σ H1 fun y H2 => t σ x y H2 fun z H3 => D.nx (σ.set i (some z)) H3
section
variable {X : Cx} {k : Nat} {C f : Addr} {ps : List Str} {E : L2.St → XK} {Cc : Ct} {e : Expr} {pos pos' : Pos} {te : TE}
theorem ps_augS {i : Nat} {x : Str} {op : Operator} (hN : X.N.Nodup) (hi : X.N[i]? = some x) (hx : X.env.scope.names.lookup x = some .local) (o : Io2 X.K C op f) (F : Fn X.prog X.w X.K X.mg X.base k f ps Cc) (room : Room k X.A) (pass : ∀ sg, PassesAt (L2.CX X.prog X.w) X sg (E sg)) (he : PE X e te) :
    PS X (.AugAssign (.Name x pos') op e pos) (tAugAt i te fun sg => ipOwnB C (spC X.K Cc) (E sg)) where
  run pins s σ H D I h := by
    obtain ⟨v, e1, h⟩ := h
    obtain ⟨fd, F, bd⟩ := F
    obtain ⟨m, hn, hl⟩ := I.loc
    obtain ⟨u, ru, ⟨_, hm⟩ | ⟨hk, _⟩⟩ := hl i x v hi e1 (.inl hx)
    · refine wpAny_AugAssign_Name (wpAny_loadName_local I.ok.kind hx hn hm (thn (he.run pins s σ H _ I h) fun w s1 ⟨y, H1, J, ry, q⟩ => ?_))
      obtain ⟨a, dx, fs, rfl, ha, q⟩ := q
      cases ru
      obtain ⟨od, J1⟩ := inst_at J ha
      obtain ⟨m1, hF⟩ := J.fr
      have called := run_fnS F room bd (pass σ) J (.cons (show RelV (.ref a) (.ref a) from rfl) (.cons ry .nil)) q
      refine thn (ksp_inplace hF J.ok.mod.kin J1 o.first o.sm.at_ o.sm.fn (wpAny_mono called (fun u2 s2 z => cmpBack_of z) fun _ _ z => z)) fun z s2 ⟨zv, H2, J2, rz, q2⟩ => ?_
      exact store_ok J2 hN hi (.inl hx) rz (fun s3 J3 => ⟨_, H2, J3, q2⟩) (.inr hx)
    · rw [show X.env.kindOf x = some .local from hx] at hk
      rcases hk with hk | hk <;> cases hk
end
/-- the slots of a suite where those of the try are kept -/
def nameR (ro : Ro) (a : Addr) : Option Nat → Ro
  | none => ro
  | some i => ro.set i (some (.val (.adr a)))
section
variable {K : PySem.W.Frag} {B F0 : Hp} {ro : Ro} {ka k1 k2 k3 kr : Cells} {ta : List (V × W)} {te : TE} {C C1 : Addr} {fs gs : List (Str × D)} {De De' : Ends} {l : List Cla} {oi : Option Nat} {ts : Addr → Value → Option Addr → TS} {Wout : WX} {x y : W} {b : Bool} {Cc : Ct} {i : Nat} {E : L2.St → XK}
theorem En.named (e : En K B F0 ro ka ta sg H) (a : Addr) : En K B F0 (nameR ro a oi) ka ta (nameS sg a oi) H := by
  cases oi with
  | none => exact e
  | some j => exact e.setA j a
theorem held2 {u v : V} : ∀ p ∈ ([u, v] : List V).zip [x, y] ++ ta, p ∈ (v, y) :: (u, x) :: ta := fun p hp => by
  have hp' : p ∈ (u, x) :: (v, y) :: ta := hp
  rcases List.mem_cons.mp hp' with rfl | hp
  · exact List.mem_cons_of_mem _ List.mem_cons_self
  rcases List.mem_cons.mp hp with rfl | hp
  · exact List.mem_cons_self
  · exact List.mem_cons_of_mem _ (List.mem_cons_of_mem _ hp)
/-- x op= y comes back -/
theorem g_augO {out : Oc} (kr : Cells) (hi : ro[i]? = some (some x)) (he : EvD K te ro ka y (k2 ++ kr)) (lo : Io (k2 ++ kr) x C fs b) (hC : Cc [x, y] k2 out) (ho : ∀ o k, out o k → ∃ d, o = .ret d)
    (k : ∀ d k3, out (.ret d) k3 → Gp K B F0 ta De.nx (ro.set i (some (.val d))) (k3 ++ kr)) : Gp K B F0 ta (tAugAt i te (fun sg => ipOwnB C (spC K Cc) (E sg)) De) ro ka := fun sg H e =>
  ev_var hi B F0 ta sg H _ e fun u H1 e1 => he B F0 _ sg H1 _ e1 fun v H2 e2 => by
    obtain ⟨a, dx, xs, rfl, ha⟩ := lo.en e2 (List.mem_cons_of_mem _ List.mem_cons_self)
    exact ⟨a, dx, xs, rfl, ha, sp_rel (vs := [.ref a, v]) (ws := [x, y]) (ta := ta) (e2.held held2) rfl hC ho fun d k3 v3 H' o e3 => k d k3 o _ _ (e3.set i)⟩
/-- x op= y raises an error with fields that a clause takes; the slots are kept -/
theorem g_augX (kr : Cells) (hi : ro[i]? = some (some x)) (he : EvD K te ro ka y (k2 ++ kr)) (lo : Io (k2 ++ kr) x C fs b) (hC : Cc [x, y] k2 (Xt C1 gs k3)) (hit : Hit K C1 l oi ts)
    (hs : ∀ a dx, Gp K B F0 ta (ts a (.ref C1) (some dx) (goneE De oi)) (nameR ro a oi) (k3 ++ kr ++ [(dx, .xd gs)])) : Gp K B F0 ta (tAugAt i te (fun sg => ipOwnB C (spC K Cc) (WE (wCla K Wout De l) sg)) De') ro ka := fun sg H e =>
  ev_var hi B F0 ta sg H _ e fun u H1 e1 => he B F0 _ sg H1 _ e1 fun v H2 e2 => by
    obtain ⟨a, dx, xs, rfl, ha⟩ := lo.en e2 (List.mem_cons_of_mem _ List.mem_cons_self)
    refine ⟨a, dx, xs, rfl, ha, sp_exc (vs := [.ref a, v]) (ws := [x, y]) (ta := ta) (kr := kr) (e2.held held2) rfl hC (fun _ _ z => z) fun dx2 H' e3 => hit_wish hit fun a2 => hs a2 dx2 _ _ ((e3.perm ?_).named a2)⟩
    rw [List.append_assoc, List.append_assoc]
    exact List.Perm.append_left _ List.perm_append_comm
theorem EvX.less {E : XK} (h : EvX K te ro ka E C1 gs k2) (s : k3.Sublist k2) : EvX K te ro ka E C1 gs k3 := fun B F0 ta sg H Q e q => h B F0 ta sg H Q e fun dx H' e' => q dx H' (e'.less (s.append (List.Sublist.refl _)))
theorem EvX.pm {E : XK} (h : EvX K te ro k1 E C1 gs k2) (s1 : k1.Perm ka) (s2 : k2.Perm k3) : EvX K te ro ka E C1 gs k3 := fun B F0 ta sg H Q e q => h B F0 ta sg H Q (e.perm s1) fun dx H' e' => q dx H' (e'.perm (s2.symm.append_right _))
end
section
variable {K : PySem.W.Frag} {ro ro' : Ro} {t : TGs}
theorem rpl_zip {F : Hp} {B : Hp} : ∀ {ds : List D} {xs : List V}, RpL K F ds xs → ∀ p ∈ xs.zip (ds.map W.val), WOk K B F p.1 p.2
  | [], xs, h => fun p hp => by rw [show xs = [] from h] at hp; cases hp
  | d :: ds, xs, h => fun p hp => by
    obtain ⟨x, ys, rfl, h1, h2⟩ := h
    rcases List.mem_cons.mp hp with rfl | hp
    · exact h1
    · exact rpl_zip h2 p hp
/-- a list is taken apart -/
theorem at_lst {ds : List D} {m : Nat} (hm : ds.length = m) (h : AsL K t (ds.map W.val) ro ro') : AsT K (gLst K m t) (.val (.lst ds)) ro ro' := fun B F0 ka ta sg H v Q e hv q => by
  obtain ⟨F, gr, ef⟩ := id e
  obtain ⟨a, xs, rfl, s1, r1⟩ := Lk.vl.get ef (ef.tm _ hv)
  refine ⟨a, xs, rfl, .inl s1, by rw [rpl_len r1, hm], h B F0 ka (xs.zip (ds.map W.val) ++ ta) sg H xs Q ?_ (by rw [List.length_map, rpl_len r1]) (fun p hp => List.mem_append_left _ hp) fun sg' e' => q sg' (e'.held fun p hp => List.mem_append_right _ hp)⟩
  exact ⟨F, gr, { ef with tm := fun p hp => (List.mem_append.mp hp).elim (rpl_zip r1 p) (ef.tm p) }⟩
theorem at_l2 {d1 d2 : D} {i j : Nat} : AsT K (gLst K 2 (gCons (gName i) (gCons (gName j) gNil))) (.val (.lst [d1, d2])) ro ((ro.set i (some (.val d1))).set j (some (.val d2))) := at_lst rfl (al_cons at_n (al_cons at_n al_nil))
end
end DL

namespace K70
open PySem L2 DL PySem.W
structure Tx (K : PySem.W.Frag) (mg : Str → Option Value) : Prop where
  v_LETTERS : ∃ u, mg "LETTERS" = some u ∧ RelV (.str "abcdefghijklmnopqrstuvwxyz") u
  n_len : mg "len" = none
  v_LONGEST : ∃ u, mg "LONGEST" = some u ∧ RelV (.int 8) u
  n_isinstance : mg "isinstance" = none
  n_str : mg "str" = none
  n_all : mg "all" = none
  v_DIGITS : ∃ u, mg "DIGITS" = some u ∧ RelV (.str "0123456789") u
  n_list : mg "list" = none
  t0_Net___init : IsT0 K (He.dflAt ("Net", some "__init__") 0 K)
  n_tuple : mg "tuple" = none
  g_is_name : mg "is_name" = some (.ref (He.ga K "is_name")) ∧ keepIn K (.ref (He.ga K "is_name")) = true
  g_BadName : mg "BadName" = some (.ref (He.ga K "BadName")) ∧ keepIn K (.ref (He.ga K "BadName")) = true
  g_NameTaken : mg "NameTaken" = some (.ref (He.ga K "NameTaken")) ∧ keepIn K (.ref (He.ga K "NameTaken")) = true
  g_NoPost : mg "NoPost" = some (.ref (He.ga K "NoPost")) ∧ keepIn K (.ref (He.ga K "NoPost")) = true
  g_NoLane : mg "NoLane" = some (.ref (He.ga K "NoLane")) ∧ keepIn K (.ref (He.ga K "NoLane")) = true
  mk_Net : Mk K (He.ga K "Net") (He.ma K (He.ga K "Net") "__init__")
  g_Net : mg "Net" = some (.ref (He.ga K "Net")) ∧ keepIn K (.ref (He.ga K "Net")) = true
  mk_Scene : Mk K (He.ga K "Scene") (He.ma K (He.ga K "Scene") "__init__")
  g_Scene : mg "Scene" = some (.ref (He.ga K "Scene")) ∧ keepIn K (.ref (He.ga K "Scene")) = true
  cl_Net : Cls K (He.ga K "Net")
  me_Net_copy : Meth K (He.ga K "Net") "copy" (He.ma K (He.ga K "Net") "copy")
  g_first_missing : mg "first_missing" = some (.ref (He.ga K "first_missing")) ∧ keepIn K (.ref (He.ga K "first_missing")) = true
  pr_Net_lanes : PropOf K (He.ga K "Net") "lanes" (He.ma K (He.ga K "Net") "lanes") (pga K (He.ga K "Net") "lanes")
  g_BadDeed : mg "BadDeed" = some (.ref (He.ga K "BadDeed")) ∧ keepIn K (.ref (He.ga K "BadDeed")) = true
  g_check_deed : mg "check_deed" = some (.ref (He.ga K "check_deed")) ∧ keepIn K (.ref (He.ga K "check_deed")) = true
  me_Net_lane : Meth K (He.ga K "Net") "lane" (He.ma K (He.ga K "Net") "lane")
  g_in_net_order : mg "in_net_order" = some (.ref (He.ga K "in_net_order")) ∧ keepIn K (.ref (He.ga K "in_net_order")) = true
  g_StillWanted : mg "StillWanted" = some (.ref (He.ga K "StillWanted")) ∧ keepIn K (.ref (He.ga K "StillWanted")) = true
  me_Net_cut : Meth K (He.ga K "Net") "cut" (He.ma K (He.ga K "Net") "cut")
  g_NotWanted : mg "NotWanted" = some (.ref (He.ga K "NotWanted")) ∧ keepIn K (.ref (He.ga K "NotWanted")) = true
  n_enumerate : mg "enumerate" = none
  g_do_deed : mg "do_deed" = some (.ref (He.ga K "do_deed")) ∧ keepIn K (.ref (He.ga K "do_deed")) = true
  t0_Watch___init : IsT0 K (He.dflAt ("Watch", some "__init__") 0 K)
  g_same_scene : mg "same_scene" = some (.ref (He.ga K "same_scene")) ∧ keepIn K (.ref (He.ga K "same_scene")) = true
  g_do_all : mg "do_all" = some (.ref (He.ga K "do_all")) ∧ keepIn K (.ref (He.ga K "do_all")) = true
  n_int : mg "int" = none
  g_law_take : mg "_law_take" = some (.ref (He.ga K "_law_take")) ∧ keepIn K (.ref (He.ga K "_law_take")) = true
  n_range : mg "range" = none
  g_law_many : mg "_law_many" = some (.ref (He.ga K "_law_many")) ∧ keepIn K (.ref (He.ga K "_law_many")) = true
  g_law_mixed : mg "_law_mixed" = some (.ref (He.ga K "_law_mixed")) ∧ keepIn K (.ref (He.ga K "_law_mixed")) = true
  me_Net_post : Meth K (He.ga K "Net") "post" (He.ma K (He.ga K "Net") "post")
  g_law_lanes : mg "_law_lanes" = some (.ref (He.ga K "_law_lanes")) ∧ keepIn K (.ref (He.ga K "_law_lanes")) = true
  g_law_stranger : mg "_law_stranger" = some (.ref (He.ga K "_law_stranger")) ∧ keepIn K (.ref (He.ga K "_law_stranger")) = true
  g_law_form : mg "_law_form" = some (.ref (He.ga K "_law_form")) ∧ keepIn K (.ref (He.ga K "_law_form")) = true
  g_law_drop : mg "_law_drop" = some (.ref (He.ga K "_law_drop")) ∧ keepIn K (.ref (He.ga K "_law_drop")) = true
  cl_Watch : Cls K (He.ga K "Watch")
  pr_Watch_net : PropOf K (He.ga K "Watch") "net" (He.ma K (He.ga K "Watch") "net") (pga K (He.ga K "Watch") "net")
  pr_Net_posts : PropOf K (He.ga K "Net") "posts" (He.ma K (He.ga K "Net") "posts") (pga K (He.ga K "Net") "posts")
  me_Net_end_of : Meth K (He.ga K "Net") "end_of" (He.ma K (He.ga K "Net") "end_of")
  me_Net_start_of : Meth K (He.ga K "Net") "start_of" (He.ma K (He.ga K "Net") "start_of")
  me_Watch_told : Meth K (He.ga K "Watch") "told" (He.ma K (He.ga K "Watch") "told")
  pr_Watch_wanted : PropOf K (He.ga K "Watch") "wanted" (He.ma K (He.ga K "Watch") "wanted") (pga K (He.ga K "Watch") "wanted")
  g_law_in_order : mg "_law_in_order" = some (.ref (He.ga K "_law_in_order")) ∧ keepIn K (.ref (He.ga K "_law_in_order")) = true
  xc_NotWanted : Xc K (He.ga K "NotWanted")
  xn_NotWanted_name : findIn K (.ref (He.ga K "NotWanted")) "name" = some none
  xc_StillWanted : Xc K (He.ga K "StillWanted")
  xn_StillWanted_name : findIn K (.ref (He.ga K "StillWanted")) "name" = some none
  xc_NoLane : Xc K (He.ga K "NoLane")
  xn_NoLane_name : findIn K (.ref (He.ga K "NoLane")) "name" = some none
  xc_NoPost : Xc K (He.ga K "NoPost")
  xn_NoPost_name : findIn K (.ref (He.ga K "NoPost")) "name" = some none
  xc_NameTaken : Xc K (He.ga K "NameTaken")
  xn_NameTaken_name : findIn K (.ref (He.ga K "NameTaken")) "name" = some none
  xc_BadName : Xc K (He.ga K "BadName")
  xn_BadName_name : findIn K (.ref (He.ga K "BadName")) "name" = some none
  xc_BadDeed : Xc K (He.ga K "BadDeed")
  xn_BadDeed_place : findIn K (.ref (He.ga K "BadDeed")) "place" = some none
  io_Watch_Add : Io2 K (He.ga K "Watch") .Add (He.ma K (He.ga K "Watch") (dunderI (Operator.Add).info.2))
  g_law_deed : mg "_law_deed" = some (.ref (He.ga K "_law_deed")) ∧ keepIn K (.ref (He.ga K "_law_deed")) = true
  g_law_due : mg "_law_due" = some (.ref (He.ga K "_law_due")) ∧ keepIn K (.ref (He.ga K "_law_due")) = true
  g_law_after : mg "_law_after" = some (.ref (He.ga K "_law_after")) ∧ keepIn K (.ref (He.ga K "_law_after")) = true
  g_law_pool : mg "_law_pool" = some (.ref (He.ga K "_law_pool")) ∧ keepIn K (.ref (He.ga K "_law_pool")) = true
  g_law_cell : mg "_law_cell" = some (.ref (He.ga K "_law_cell")) ∧ keepIn K (.ref (He.ga K "_law_cell")) = true
  g_law_strong_net : mg "_law_strong_net" = some (.ref (He.ga K "_law_strong_net")) ∧ keepIn K (.ref (He.ga K "_law_strong_net")) = true
  mk_Watch : Mk K (He.ga K "Watch") (He.ma K (He.ga K "Watch") "__init__")
  g_Watch : mg "Watch" = some (.ref (He.ga K "Watch")) ∧ keepIn K (.ref (He.ga K "Watch")) = true
  g_law_built : mg "_law_built" = some (.ref (He.ga K "_law_built")) ∧ keepIn K (.ref (He.ga K "_law_built")) = true
  g_law_list : mg "_law_list" = some (.ref (He.ga K "_law_list")) ∧ keepIn K (.ref (He.ga K "_law_list")) = true
  g_law_long : mg "_law_long" = some (.ref (He.ga K "_law_long")) ∧ keepIn K (.ref (He.ga K "_law_long")) = true
  g_law_all : mg "_law_all" = some (.ref (He.ga K "_law_all")) ∧ keepIn K (.ref (He.ga K "_law_all")) = true
  g_law_added : mg "_law_added" = some (.ref (He.ga K "_law_added")) ∧ keepIn K (.ref (He.ga K "_law_added")) = true
  g_law_same : mg "_law_same" = some (.ref (He.ga K "_law_same")) ∧ keepIn K (.ref (He.ga K "_law_same")) = true
  xi_BadName : findIn K (.ref (He.ga K "BadName")) "__init__" = some (some (.ref (He.ma K (He.ga K "BadName") "__init__"))) ∧ typeIn K (.ref (He.ma K (He.ga K "BadName") "__init__")) = some (.type "function")
  xi_NameTaken : findIn K (.ref (He.ga K "NameTaken")) "__init__" = some (some (.ref (He.ma K (He.ga K "NameTaken") "__init__"))) ∧ typeIn K (.ref (He.ma K (He.ga K "NameTaken") "__init__")) = some (.type "function")
  xi_NoPost : findIn K (.ref (He.ga K "NoPost")) "__init__" = some (some (.ref (He.ma K (He.ga K "NoPost") "__init__"))) ∧ typeIn K (.ref (He.ma K (He.ga K "NoPost") "__init__")) = some (.type "function")
  xi_NoLane : findIn K (.ref (He.ga K "NoLane")) "__init__" = some (some (.ref (He.ma K (He.ga K "NoLane") "__init__"))) ∧ typeIn K (.ref (He.ma K (He.ga K "NoLane") "__init__")) = some (.type "function")
  xi_BadDeed : findIn K (.ref (He.ga K "BadDeed")) "__init__" = some (some (.ref (He.ma K (He.ga K "BadDeed") "__init__"))) ∧ typeIn K (.ref (He.ma K (He.ga K "BadDeed") "__init__")) = some (.type "function")
  xi_NotWanted : findIn K (.ref (He.ga K "NotWanted")) "__init__" = some (some (.ref (He.ma K (He.ga K "NotWanted") "__init__"))) ∧ typeIn K (.ref (He.ma K (He.ga K "NotWanted") "__init__")) = some (.type "function")
  xi_StillWanted : findIn K (.ref (He.ga K "StillWanted")) "__init__" = some (some (.ref (He.ma K (He.ga K "StillWanted") "__init__"))) ∧ typeIn K (.ref (He.ma K (He.ga K "StillWanted") "__init__")) = some (.type "function")
  g_law : mg "law" = some (.ref (He.ga K "law")) ∧ keepIn K (.ref (He.ga K "law")) = true
  kt_NoneType_str : kitOne K (.type "NoneType") (.type "str") = some false
  kt_bool_str : kitOne K (.type "bool") (.type "str") = some false
  kt_int_str : kitOne K (.type "int") (.type "str") = some false
  kt_list_str : kitOne K (.type "list") (.type "str") = some false
  kt_tuple_str : kitOne K (.type "tuple") (.type "str") = some false
  kt_str_str : kitOne K (.type "str") (.type "str") = some true
  na_Net_order : NoAttr K (He.ga K "Net") "order"
  na_Net_ends_by_lane : NoAttr K (He.ga K "Net") "ends_by_lane"
  cl_Scene : Cls K (He.ga K "Scene")
  na_Scene_base : NoAttr K (He.ga K "Scene") "base"
  na_Scene_goal : NoAttr K (He.ga K "Scene") "goal"
  na_Scene_deeds : NoAttr K (He.ga K "Scene") "deeds"
  na_Scene_ahead : NoAttr K (He.ga K "Scene") "ahead"
  na_Scene_pattern_by_name : NoAttr K (He.ga K "Scene") "pattern_by_name"
  kt_NoneType_tuple : kitOne K (.type "NoneType") (.type "tuple") = some false
  kt_str_tuple : kitOne K (.type "str") (.type "tuple") = some false
  kt_list_tuple : kitOne K (.type "list") (.type "tuple") = some false
  kt_tuple_tuple : kitOne K (.type "tuple") (.type "tuple") = some true
  na_Watch_scene : NoAttr K (He.ga K "Watch") "scene"
  ex_BadDeed_BadDeed : exmOne K (.ref (He.ga K "BadDeed")) (.ref (He.ga K "BadDeed")) = some true
  ex_BadName_BadDeed : exmOne K (.ref (He.ga K "BadName")) (.ref (He.ga K "BadDeed")) = some false
  ex_BadName_BadName : exmOne K (.ref (He.ga K "BadName")) (.ref (He.ga K "BadName")) = some true
  ex_NameTaken_BadDeed : exmOne K (.ref (He.ga K "NameTaken")) (.ref (He.ga K "BadDeed")) = some false
  ex_NameTaken_BadName : exmOne K (.ref (He.ga K "NameTaken")) (.ref (He.ga K "BadName")) = some false
  ex_NameTaken_NameTaken : exmOne K (.ref (He.ga K "NameTaken")) (.ref (He.ga K "NameTaken")) = some true
  ex_NoPost_BadDeed : exmOne K (.ref (He.ga K "NoPost")) (.ref (He.ga K "BadDeed")) = some false
  ex_NoPost_BadName : exmOne K (.ref (He.ga K "NoPost")) (.ref (He.ga K "BadName")) = some false
  ex_NoPost_NameTaken : exmOne K (.ref (He.ga K "NoPost")) (.ref (He.ga K "NameTaken")) = some false
  ex_NoPost_NoPost : exmOne K (.ref (He.ga K "NoPost")) (.ref (He.ga K "NoPost")) = some true
  ex_NoLane_BadDeed : exmOne K (.ref (He.ga K "NoLane")) (.ref (He.ga K "BadDeed")) = some false
  ex_NoLane_BadName : exmOne K (.ref (He.ga K "NoLane")) (.ref (He.ga K "BadName")) = some false
  ex_NoLane_NameTaken : exmOne K (.ref (He.ga K "NoLane")) (.ref (He.ga K "NameTaken")) = some false
  ex_NoLane_NoPost : exmOne K (.ref (He.ga K "NoLane")) (.ref (He.ga K "NoPost")) = some false
  ex_NoLane_NoLane : exmOne K (.ref (He.ga K "NoLane")) (.ref (He.ga K "NoLane")) = some true
  ex_StillWanted_BadDeed : exmOne K (.ref (He.ga K "StillWanted")) (.ref (He.ga K "BadDeed")) = some false
  ex_StillWanted_BadName : exmOne K (.ref (He.ga K "StillWanted")) (.ref (He.ga K "BadName")) = some false
  ex_StillWanted_NameTaken : exmOne K (.ref (He.ga K "StillWanted")) (.ref (He.ga K "NameTaken")) = some false
  ex_StillWanted_NoPost : exmOne K (.ref (He.ga K "StillWanted")) (.ref (He.ga K "NoPost")) = some false
  ex_StillWanted_NoLane : exmOne K (.ref (He.ga K "StillWanted")) (.ref (He.ga K "NoLane")) = some false
  ex_StillWanted_StillWanted : exmOne K (.ref (He.ga K "StillWanted")) (.ref (He.ga K "StillWanted")) = some true
  ex_NotWanted_BadDeed : exmOne K (.ref (He.ga K "NotWanted")) (.ref (He.ga K "BadDeed")) = some false
  ex_NotWanted_BadName : exmOne K (.ref (He.ga K "NotWanted")) (.ref (He.ga K "BadName")) = some false
  ex_NotWanted_NameTaken : exmOne K (.ref (He.ga K "NotWanted")) (.ref (He.ga K "NameTaken")) = some false
  ex_NotWanted_NoPost : exmOne K (.ref (He.ga K "NotWanted")) (.ref (He.ga K "NoPost")) = some false
  ex_NotWanted_NoLane : exmOne K (.ref (He.ga K "NotWanted")) (.ref (He.ga K "NoLane")) = some false
  ex_NotWanted_StillWanted : exmOne K (.ref (He.ga K "NotWanted")) (.ref (He.ga K "StillWanted")) = some false
  ex_NotWanted_NotWanted : exmOne K (.ref (He.ga K "NotWanted")) (.ref (He.ga K "NotWanted")) = some true
  d_is_name : ∃ fd, FunD K "is_name" "is_name" (defArgs s_is_name) (defBody s_is_name) (defScope s_is_name) [] [] (He.ga K "is_name") fd
  d_first_missing : ∃ fd, FunD K "first_missing" "first_missing" (defArgs s_first_missing) (defBody s_first_missing) (defScope s_first_missing) [] [] (He.ga K "first_missing") fd
  d_Net___init : ∃ fd, FunD K "__init__" "Net.__init__" (defArgs s_Net___init) (defBody s_Net___init) (defScope s_Net___init) [.ref (He.dflAt ("Net", some "__init__") 0 K), .non] [] (He.ma K (He.ga K "Net") "__init__") fd
  d_Net_posts : ∃ fd, FunD K "posts" "Net.posts" (defArgs s_Net_posts) (defBody s_Net_posts) (defScope s_Net_posts) [] [] (pga K (He.ga K "Net") "posts") fd
  d_Net_lanes : ∃ fd, FunD K "lanes" "Net.lanes" (defArgs s_Net_lanes) (defBody s_Net_lanes) (defScope s_Net_lanes) [] [] (pga K (He.ga K "Net") "lanes") fd
  d_Net_post : ∃ fd, FunD K "post" "Net.post" (defArgs s_Net_post) (defBody s_Net_post) (defScope s_Net_post) [] [] (He.ma K (He.ga K "Net") "post") fd
  d_Net_lane : ∃ fd, FunD K "lane" "Net.lane" (defArgs s_Net_lane) (defBody s_Net_lane) (defScope s_Net_lane) [] [] (He.ma K (He.ga K "Net") "lane") fd
  d_Net_start_of : ∃ fd, FunD K "start_of" "Net.start_of" (defArgs s_Net_start_of) (defBody s_Net_start_of) (defScope s_Net_start_of) [] [] (He.ma K (He.ga K "Net") "start_of") fd
  d_Net_end_of : ∃ fd, FunD K "end_of" "Net.end_of" (defArgs s_Net_end_of) (defBody s_Net_end_of) (defScope s_Net_end_of) [] [] (He.ma K (He.ga K "Net") "end_of") fd
  d_Net_copy : ∃ fd, FunD K "copy" "Net.copy" (defArgs s_Net_copy) (defBody s_Net_copy) (defScope s_Net_copy) [] [] (He.ma K (He.ga K "Net") "copy") fd
  d_Net_cut : ∃ fd, FunD K "cut" "Net.cut" (defArgs s_Net_cut) (defBody s_Net_cut) (defScope s_Net_cut) [] [] (He.ma K (He.ga K "Net") "cut") fd
  d_Scene___init : ∃ fd, FunD K "__init__" "Scene.__init__" (defArgs s_Scene___init) (defBody s_Scene___init) (defScope s_Scene___init) [] [] (He.ma K (He.ga K "Scene") "__init__") fd
  d_same_scene : ∃ fd, FunD K "same_scene" "same_scene" (defArgs s_same_scene) (defBody s_same_scene) (defScope s_same_scene) [] [] (He.ga K "same_scene") fd
  d_in_net_order : ∃ fd, FunD K "in_net_order" "in_net_order" (defArgs s_in_net_order) (defBody s_in_net_order) (defScope s_in_net_order) [] [] (He.ga K "in_net_order") fd
  d_check_deed : ∃ fd, FunD K "check_deed" "check_deed" (defArgs s_check_deed) (defBody s_check_deed) (defScope s_check_deed) [] [] (He.ga K "check_deed") fd
  d_do_deed : ∃ fd, FunD K "do_deed" "do_deed" (defArgs s_do_deed) (defBody s_do_deed) (defScope s_do_deed) [] [] (He.ga K "do_deed") fd
  d_do_all : ∃ fd, FunD K "do_all" "do_all" (defArgs s_do_all) (defBody s_do_all) (defScope s_do_all) [] [] (He.ga K "do_all") fd
  d_Watch___init : ∃ fd, FunD K "__init__" "Watch.__init__" (defArgs s_Watch___init) (defBody s_Watch___init) (defScope s_Watch___init) [.ref (He.dflAt ("Watch", some "__init__") 0 K)] [] (He.ma K (He.ga K "Watch") "__init__") fd
  d_Watch_net : ∃ fd, FunD K "net" "Watch.net" (defArgs s_Watch_net) (defBody s_Watch_net) (defScope s_Watch_net) [] [] (pga K (He.ga K "Watch") "net") fd
  d_Watch_wanted : ∃ fd, FunD K "wanted" "Watch.wanted" (defArgs s_Watch_wanted) (defBody s_Watch_wanted) (defScope s_Watch_wanted) [] [] (pga K (He.ga K "Watch") "wanted") fd
  d_Watch_told : ∃ fd, FunD K "told" "Watch.told" (defArgs s_Watch_told) (defBody s_Watch_told) (defScope s_Watch_told) [] [] (He.ma K (He.ga K "Watch") "told") fd
  d_Watch___iadd : ∃ fd, FunD K "__iadd__" "Watch.__iadd__" (defArgs s_Watch___iadd) (defBody s_Watch___iadd) (defScope s_Watch___iadd) [] [] (He.ma K (He.ga K "Watch") "__iadd__") fd
  d_law_cell : ∃ fd, FunD K "_law_cell" "_law_cell" (defArgs s_law_cell) (defBody s_law_cell) (defScope s_law_cell) [] [] (He.ga K "_law_cell") fd
  d_law_pool : ∃ fd, FunD K "_law_pool" "_law_pool" (defArgs s_law_pool) (defBody s_law_pool) (defScope s_law_pool) [] [] (He.ga K "_law_pool") fd
  d_law_take : ∃ fd, FunD K "_law_take" "_law_take" (defArgs s_law_take) (defBody s_law_take) (defScope s_law_take) [] [] (He.ga K "_law_take") fd
  d_law_stranger : ∃ fd, FunD K "_law_stranger" "_law_stranger" (defArgs s_law_stranger) (defBody s_law_stranger) (defScope s_law_stranger) [] [] (He.ga K "_law_stranger") fd
  d_law_many : ∃ fd, FunD K "_law_many" "_law_many" (defArgs s_law_many) (defBody s_law_many) (defScope s_law_many) [] [] (He.ga K "_law_many") fd
  d_law_mixed : ∃ fd, FunD K "_law_mixed" "_law_mixed" (defArgs s_law_mixed) (defBody s_law_mixed) (defScope s_law_mixed) [] [] (He.ga K "_law_mixed") fd
  d_law_strong_net : ∃ fd, FunD K "_law_strong_net" "_law_strong_net" (defArgs s_law_strong_net) (defBody s_law_strong_net) (defScope s_law_strong_net) [] [] (He.ga K "_law_strong_net") fd
  d_law_built : ∃ fd, FunD K "_law_built" "_law_built" (defArgs s_law_built) (defBody s_law_built) (defScope s_law_built) [] [] (He.ga K "_law_built") fd
  d_law_lanes : ∃ fd, FunD K "_law_lanes" "_law_lanes" (defArgs s_law_lanes) (defBody s_law_lanes) (defScope s_law_lanes) [] [] (He.ga K "_law_lanes") fd
  d_law_in_order : ∃ fd, FunD K "_law_in_order" "_law_in_order" (defArgs s_law_in_order) (defBody s_law_in_order) (defScope s_law_in_order) [] [] (He.ga K "_law_in_order") fd
  d_law_drop : ∃ fd, FunD K "_law_drop" "_law_drop" (defArgs s_law_drop) (defBody s_law_drop) (defScope s_law_drop) [] [] (He.ga K "_law_drop") fd
  d_law_deed : ∃ fd, FunD K "_law_deed" "_law_deed" (defArgs s_law_deed) (defBody s_law_deed) (defScope s_law_deed) [] [] (He.ga K "_law_deed") fd
  d_law_form : ∃ fd, FunD K "_law_form" "_law_form" (defArgs s_law_form) (defBody s_law_form) (defScope s_law_form) [] [] (He.ga K "_law_form") fd
  d_law_due : ∃ fd, FunD K "_law_due" "_law_due" (defArgs s_law_due) (defBody s_law_due) (defScope s_law_due) [] [] (He.ga K "_law_due") fd
  d_law_after : ∃ fd, FunD K "_law_after" "_law_after" (defArgs s_law_after) (defBody s_law_after) (defScope s_law_after) [] [] (He.ga K "_law_after") fd
  d_law_same : ∃ fd, FunD K "_law_same" "_law_same" (defArgs s_law_same) (defBody s_law_same) (defScope s_law_same) [] [] (He.ga K "_law_same") fd
  d_law_added : ∃ fd, FunD K "_law_added" "_law_added" (defArgs s_law_added) (defBody s_law_added) (defScope s_law_added) [] [] (He.ga K "_law_added") fd
  d_law_list : ∃ fd, FunD K "_law_list" "_law_list" (defArgs s_law_list) (defBody s_law_list) (defScope s_law_list) [] [] (He.ga K "_law_list") fd
  d_law_all : ∃ fd, FunD K "_law_all" "_law_all" (defArgs s_law_all) (defBody s_law_all) (defScope s_law_all) [] [] (He.ga K "_law_all") fd
  d_law_long : ∃ fd, FunD K "_law_long" "_law_long" (defArgs s_law_long) (defBody s_law_long) (defScope s_law_long) [] [] (He.ga K "_law_long") fd
  d_law : ∃ fd, FunD K "law" "law" (defArgs s_law) (defBody s_law) (defScope s_law) [] [] (He.ga K "law") fd
  d_BadName___init : ∃ fd, FunD K "__init__" "BadName.__init__" (defArgs s_BadName___init) (defBody s_BadName___init) (defScope s_BadName___init) [] [] (He.ma K (He.ga K "BadName") "__init__") fd
  d_NameTaken___init : ∃ fd, FunD K "__init__" "NameTaken.__init__" (defArgs s_NameTaken___init) (defBody s_NameTaken___init) (defScope s_NameTaken___init) [] [] (He.ma K (He.ga K "NameTaken") "__init__") fd
  d_NoPost___init : ∃ fd, FunD K "__init__" "NoPost.__init__" (defArgs s_NoPost___init) (defBody s_NoPost___init) (defScope s_NoPost___init) [] [] (He.ma K (He.ga K "NoPost") "__init__") fd
  d_NoLane___init : ∃ fd, FunD K "__init__" "NoLane.__init__" (defArgs s_NoLane___init) (defBody s_NoLane___init) (defScope s_NoLane___init) [] [] (He.ma K (He.ga K "NoLane") "__init__") fd
  d_BadDeed___init : ∃ fd, FunD K "__init__" "BadDeed.__init__" (defArgs s_BadDeed___init) (defBody s_BadDeed___init) (defScope s_BadDeed___init) [] [] (He.ma K (He.ga K "BadDeed") "__init__") fd
  d_NotWanted___init : ∃ fd, FunD K "__init__" "NotWanted.__init__" (defArgs s_NotWanted___init) (defBody s_NotWanted___init) (defScope s_NotWanted___init) [] [] (He.ma K (He.ga K "NotWanted") "__init__") fd
  d_StillWanted___init : ∃ fd, FunD K "__init__" "StillWanted.__init__" (defArgs s_StillWanted___init) (defBody s_StillWanted___init) (defScope s_StillWanted___init) [] [] (He.ma K (He.ga K "StillWanted") "__init__") fd
section
variable {P : Program} {w : World} {K : PySem.W.Frag} {mg : Str → Option Value} {base : Heap}
end
def ct_is_name (K : PySem.W.Frag) : Ct := Ct1 fun a ka out => ∃ d, a = .val d ∧ nmOk d ∧ ka = [] ∧ out = Rt (.bl (isNmD d)) []
section
variable {P : Program} {w : World} {K : PySem.W.Frag} {mg : Str → Option Value} {base : Heap}
theorem ok_is_name (T : Tx K mg) : Fn P w K mg base 4 (He.ga K "is_name") ["word"] (ct_is_name K) := by
  obtain ⟨fd, F⟩ := T.d_is_name
  refine fn_ok F sc_is_name (fun _ _ _ _ _ _ us hl => match us, hl with | [_], _ => rfl) ct1_len (fun cdv A outer s H E hr => ⟨_, (pss_cons (ps_if (PW.pt (pw_or (pt_not (pt_val (pe_callB call_isi rfl T.n_isinstance (by decide +kernel) (pa_cons (pv 0) (pa_cons (pe_bltn (v := .ty "str") rfl T.n_str (by decide +kernel) rfl) pa_nil))))) (pw_or (pt_cmpR (op_eqP (by have := (hr).units; exact this)) (pv 0) pe_str (nomark _)) (pw_or (pt_cmpR op_gt (pe_callB call_lenU rfl T.n_len (by decide +kernel) (pa_cons (pv 0) pa_nil)) (pe_gv rfl T.v_LONGEST) (nomark _)) (pw_or1 (pt_cmpR op_niU (pe_ix ix_seq (pv 0) pe_int fun _ _ => rfl) (pe_gv rfl T.v_LETTERS) (by with_unfolding_all rfl)))))))
      (pss_one (ps_ret pe_bl))
      pss_nil)
      (pss_one (ps_ret (pe_callB (cr_all rfl) rfl T.n_all (by decide +kernel) (pa_cons (pe_lc (te := (tOrV (tOp (rInU K) (tVar 1) (tC (.str "abcdefghijklmnopqrstuvwxyz"))) (tOp (rInU K) (tVar 1) (tC (.str "0123456789"))))) (tt := tYes) (own := [("sign", 1)]) rfl sc_is_name.nd (pi_seq (pv 0)) (blk_ok ["word", "sign"] (defScope s_is_name) rfl rfl (by decide +kernel)) (fun _ _ _ _ _ => (pg_name (i := 1) sc_is_name.nd rfl (by first | exact Or.inl rfl | exact Or.inr rfl))) (fun _ _ _ _ _ => pts_nil) (fun _ _ _ _ _ => (pe_or (pe_cmpR op_inU (pv 1) (pe_gv rfl T.v_LETTERS) (by with_unfolding_all rfl)) (pe_one (pe_cmpR op_inU (pv 1) (pe_gv rfl T.v_DIGITS) (by with_unfolding_all rfl)))))) pa_nil))))), fun ws ka out B F0 Q hC hR hX => ?_⟩)
  obtain ⟨a, rfl, d, rfl, hd, rfl, rfl⟩ := hC
  have other : (∃ s, d = .str s) ∨ ∃ t, tyD d = some t ∧ kitOne K (.type t) (.type "str") = some false ∧ isNmD d = false := by
    cases d with
    | non => exact .inr ⟨_, rfl, T.kt_NoneType_str, rfl⟩
    | bl b => exact .inr ⟨_, rfl, T.kt_bool_str, rfl⟩
    | int i => exact .inr ⟨_, rfl, T.kt_int_str, rfl⟩
    | lst ds => exact .inr ⟨_, rfl, T.kt_list_str, rfl⟩
    | tup ds => exact .inr ⟨_, rfl, T.kt_tuple_str, rfl⟩
    | str s => exact .inl ⟨s, rfl⟩
    | _ => exact absurd rfl hd
  rcases other with ⟨s, rfl⟩ | ⟨t, ht, hk, hn⟩
  · have hs : s.length ≤ 100000 := Nat.le_trans hd (by decide)
    cases hc : s.cps.toList with
    | nil =>
      have e := str_nil hc
      refine q_when (et_or0 ((et_not (et_B (ev_isi (ev_var rfl) .str T.kt_str_str))).to rfl) (et_or1 ((et_test (ev_eqS (ev_var rfl) ev_str)).to (by rw [e]; rfl)))) (fun _ => g_ret hR ev_bl ⟨?_, rfl⟩) (fun z => by cases z)
      show Out.ret (.bl false) = Out.ret (.bl (isNm s))
      unfold isNm
      rw [hc]
      rfl
    | cons c r =>
      have e : (s == ("" : Str)) = false := by
        refine beq_eq_false_iff_ne.mpr fun z => ?_
        rw [z] at hc
        cases hc
      have hl : s.length = (c :: r).length := by rw [str_len, hc]
      refine q_when (et_or0 ((et_not (et_B (ev_isi (ev_var rfl) .str T.kt_str_str))).to rfl) (et_or0 ((et_test (ev_eqS (ev_var rfl) ev_str)).to e) (et_or (et_test (ev_gt (ev_lenS (ev_var rfl) hs) ev_int)) (fun _ => et_test (ev_niS (ev_ixS (c := c) (ev_var rfl) ev_int hs (by rw [hc]; exact at0)) ev_str))))) (fun hb => g_ret hR ev_bl ⟨?_, rfl⟩) (fun hb => ?_)
      · show Out.ret (.bl false) = Out.ret (.bl (isNm s))
        unfold isNm nmL
        rw [hc]
        rw [Bool.or_eq_true, decide_eq_true_eq, Bool.not_eq_true', decide_eq_false_iff_not] at hb
        rcases hb with hb | hb
        · have : ¬ (c :: r).length ≤ 8 := by rw [← hl]; omega
          simp only [decide_eq_false this, Bool.false_and]
        · have : decide (c ∈ letL) = false := decide_eq_false hb
          simp only [this, Bool.false_and, Bool.and_false]
      · rw [Bool.or_eq_false_iff, decide_eq_false_iff_not, Bool.not_eq_false', decide_eq_true_eq] at hb
        refine g_ret hR (ev_cb (ea1 (evn_map (f := fun x => D.bl (decide (x ∈ letL) || decide (x ∈ digL))) (ei_str (ev_var rfl)) (by decide) (by rw [← str_len]; omega) ⟨trivial, fun _ => trivial⟩ (fun x hx => ev_orV (ev_inS (ev_var rfl) ev_str) fun _ => ev_inS (ev_var rfl) ev_str)).lst) (rc_all (b := false) (bs := s.cps.toList.map fun x => decide (x ∈ letL) || decide (x ∈ digL)) ?_)) ⟨?_, rfl⟩
        · rw [List.map_map]
          exact .vl
        · show Out.ret _ = Out.ret (.bl (isNm s))
          unfold isNm nmL
          rw [hc, List.all_map]
          have h1 : (c :: r).length ≤ 8 := by rw [← hl]; omega
          have h2 : decide (c ∈ letL) = true := decide_eq_true hb.2
          simp only [decide_eq_true h1, h2, Bool.true_and]
          rfl
  · exact q_when (et_or1 ((et_not (et_B (ev_isi (ev_var rfl) (tw_of ht) hk))).to rfl)) (fun _ => g_ret hR ev_bl ⟨by rw [hn], rfl⟩) (fun z => by cases z)
end
/-- the first of xs that ys has not -/
def fmD (xs ys : List Str) : D := match xs.find? fun x => !decide (x ∈ ys) with
  | some x => .str x
  | none => .non
theorem fmD_skip {xs ys : List Str} : (∀ x ∈ xs, x ∈ ys) → fmD xs ys = .non := fun h => by
  unfold fmD
  rw [List.find?_eq_none.mpr fun x hx => by simp [h x hx]]
theorem fmD_at {xs ys : List Str} {i : Nat} {x : Str} (h : ∀ y ∈ xs.take i, y ∈ ys) (hx : xs[i]? = some x) (hn : ¬ x ∈ ys) : fmD xs ys = .str x := by
  have e : xs = xs.take i ++ x :: xs.drop (i + 1) := by
    obtain ⟨hi, rfl⟩ := List.getElem?_eq_some_iff.mp hx
    rw [List.getElem_cons_drop, List.take_append_drop]
  unfold fmD
  rw [e, List.find?_append, List.find?_eq_none.mpr (fun y hy => by simp [h y hy]), Option.none_or, List.find?_cons_of_pos (by simp [hn])]
def ct_first_missing (K : PySem.W.Frag) : Ct := Ct2 fun a b ka out => ∃ xs ys t1 b1, Lk ka a t1 (stD xs) b1 ∧ HasS ka b ys ∧ out = Rt (fmD xs ys) ka
section
variable {P : Program} {w : World} {K : PySem.W.Frag} {mg : Str → Option Value} {base : Heap}
theorem ok_first_missing (T : Tx K mg) : Fn P w K mg base 4 (He.ga K "first_missing") ["names", "known"] (ct_first_missing K) := by
  obtain ⟨fd, F⟩ := T.d_first_missing
  refine fn_ok F sc_first_missing (fun _ _ _ _ _ _ us hl => match us, hl with | [_, _], _ => rfl) ct2_len (fun cdv A outer s H E hr => ⟨_, (pss_cons (ps_for (passes_of rfl) rfl (pi_seq (pv 0)) (pg_name (i := 2) sc_first_missing.nd rfl (by first | exact Or.inl rfl | exact Or.inr rfl)) (pss_one (ps_if (pt_cmpR (op_niD (hu1 hr)) (pv 2) (pv 1) (by with_unfolding_all rfl))
      (pss_one (ps_ret (pv 2)))
      pss_nil)))
      (pss_one (ps_ret pe_non))), fun ws ka out B F0 Q hC hR hX => ?_⟩)
  obtain ⟨a, b, rfl, xs, ys, t1, b1, l1, l2, rfl⟩ := hC
  refine q_forn (ei_seq (ev_var rfl) l1) (fun i ro ka' => ∃ v, ro = [some a, some b, v] ∧ ka' = ka ∧ ∀ y ∈ xs.take i, y ∈ ys) ⟨none, rfl, rfl, fun y hy => by cases hy⟩ (fun i ro2 ka2 ⟨v, _, e, _⟩ => e ▸ l1.stay) (fun i w ro2 ka2 ta' hw ⟨v, e1, e2, hs⟩ => ?_) (fun ro2 ka2 ta' ⟨v, e1, e2, hs⟩ _ => ?_)
  · subst e1 e2
    rw [List.getElem?_map] at hw
    cases hx : xs[i]? with
    | none => rw [show (stD xs)[i]? = none by unfold stD; rw [List.getElem?_map, hx]; rfl] at hw; cases hw
    | some x =>
      rw [stD_get hx] at hw
      cases hw
      have hp : part b1 (.str x) = .val (.str x) := by cases b1 <;> rfl
      rw [hp]
      refine g_if (et_test (ev_niH (ev_var rfl) (ev_var rfl) l2)) (fun hb => g_ret hR (ev_var rfl) ⟨?_, rfl⟩) (fun hb => g_next (g_jp ⟨_, rfl, rfl, fun y hy => ?_⟩))
      · rw [Bool.not_eq_true', decide_eq_false_iff_not] at hb
        rw [fmD_at hs hx hb]
      · rw [Bool.not_eq_false', decide_eq_true_eq] at hb
        rw [take_succ_some hx] at hy
        rcases List.mem_append.mp hy with hy | hy
        · exact hs y hy
        · rw [List.mem_singleton.mp hy]; exact hb
  · subst e1 e2
    rw [List.length_map, stD_len, List.take_length] at hs
    exact g_ret hR ev_non ⟨by rw [fmD_skip hs], rfl⟩
end
/-! ### nets as data -/
/-- a lane, its start, its end -/
abbrev Ln := Str × Str × Str
def lnD (r : Ln) : D := .tup [.str r.2.1, .str r.2.2]
def enD (es : List Ln) : List (Key × D) := es.map fun r => (.inr r.1, lnD r)
def lnN (es : List Ln) : List Str := es.map (·.1)
def NetD (K : PySem.W.Frag) (ps : List Str) (es : List Ln) : D := .ins (He.ga K "Net") [("order", .lst (stD ps)), ("ends_by_lane", .dic (enD es))]
def NetC (K : PySem.W.Frag) (a o d : Addr) (ps : List Str) (es : List Ln) : Cells := [(a, .ins (He.ga K "Net") [("order", .adr o), ("ends_by_lane", .adr d)]), (o, .lst (stD ps)), (d, .dic (enD es))]
theorem frz_net {K : PySem.W.Frag} {kt : Cells} {a o d : Addr} {ps : List Str} {es : List Ln} (h : ∀ p ∈ NetC K a o d ps es, p ∈ kt) : FrzD K kt a (NetD K ps es) :=
  frz_i (h _ List.mem_cons_self) ⟨_, _, rfl, .a (frz_l (h _ (List.mem_cons_of_mem _ List.mem_cons_self)) (FzL.same _)), _, _, rfl, .a (frz_d (h _ (List.mem_cons_of_mem _ (List.mem_cons_of_mem _ List.mem_cons_self)))), rfl⟩
theorem net_kd {K : PySem.W.Frag} {a o d : Addr} {ps : List Str} {es : List Ln} : ∀ p ∈ NetC K a o d ps es, ndK p.2 = true := fun p hp => by
  rcases List.mem_cons.mp hp with rfl | hp
  · rfl
  · rcases List.mem_cons.mp hp with rfl | hp
    · rfl
    · rw [List.mem_singleton.mp hp]; rfl
theorem net_ndI {K : PySem.W.Frag} {a o d : Addr} {ps : List Str} {es : List Ln} : ∀ p ∈ NetC K a o d ps es, ndI p.2 = true := fun p hp => by
  rcases List.mem_cons.mp hp with rfl | hp
  · rfl
  · rcases List.mem_cons.mp hp with rfl | hp
    · exact tIL_stD ps
    · rw [List.mem_singleton.mp hp]
      refine List.all_eq_true.mpr fun x hx => ?_
      obtain ⟨r, _, rfl⟩ := List.mem_map.mp hx
      rfl
theorem enD_len (es : List Ln) : (enD es).length = es.length := List.length_map _
theorem lnN_len (es : List Ln) : (lnN es).length = es.length := List.length_map _
theorem enD_app (es fs : List Ln) : enD (es ++ fs) = enD es ++ enD fs := List.map_append
theorem enD_get {es : List Ln} (hn : (lnN es).Nodup) {i : Nat} {r : Ln} (h : es[i]? = some r) : getT (enD es) (.inr r.1) = some (lnD r) := by
  induction es generalizing i with
  | nil => cases h
  | cons x l ih =>
    have hn2 := List.nodup_cons.mp hn
    unfold getT enD
    rw [List.map_cons, List.find?_cons]
    cases i with
    | zero =>
      cases h
      rw [decide_eq_true rfl]
      rfl
    | succ i =>
      have hm : r.1 ∈ lnN l := List.mem_map.mpr ⟨r, List.mem_of_getElem? (by simpa using h), rfl⟩
      have ne : ¬ (Sum.inr x.1 : Int ⊕ Str) = .inr r.1 := fun z => hn2.1 (by have e := Sum.inr.inj z; have hm' : r.1 ∈ l.map (fun x : Ln => x.1) := hm; rw [← e] at hm'; exact hm')
      rw [show decide ((Sum.inr x.1 : Int ⊕ Str) = .inr r.1) = false from decide_eq_false ne]
      exact ih hn2.2 (by simpa using h)
theorem enD_getm {es : List Ln} (hn : (lnN es).Nodup) {r : Ln} (h : r ∈ es) : getT (enD es) (.inr r.1) = some (lnD r) := by
  obtain ⟨i, hi⟩ := List.mem_iff_getElem?.mp h
  exact enD_get hn hi
theorem enD_has {es : List Ln} {s : Str} : hasT (enD es) (.inr s) = decide (s ∈ lnN es) := by
  unfold hasT enD lnN
  rw [List.any_map, Bool.eq_iff_iff, List.any_eq_true, decide_eq_true_eq, List.mem_map]
  constructor
  · rintro ⟨r, h1, h2⟩
    exact ⟨r, h1, Sum.inr.inj (of_decide_eq_true h2)⟩
  · rintro ⟨r, h1, h2⟩
    exact ⟨r, h1, decide_eq_true (congrArg Sum.inr h2)⟩
theorem getT_some {κ α : Type} [DecidableEq κ] (kvs : List (κ × α)) (k : κ) : (getT kvs k).isSome = hasT kvs k := by
  unfold getT hasT
  rw [Option.isSome_map]
  induction kvs with
  | nil => rfl
  | cons x l ih =>
    rw [List.find?_cons, List.any_cons]
    cases h : decide (x.1 = k) with
    | true => rfl
    | false => rw [ih]; rfl
theorem enD_in (es : List Ln) (s : Str) : (getT (enD es) (.inr s)).isSome = decide (s ∈ lnN es) := (getT_some _ _).trans enD_has
theorem enD_put {es : List Ln} {r : Ln} (h : ¬ r.1 ∈ lnN es) : putT (enD es) (.inr r.1) (lnD r) = enD (es ++ [r]) := by
  unfold putT
  rw [if_neg (by rw [enD_has, decide_eq_true_eq]; exact h), enD_app]
  rfl
theorem enD_take {es : List Ln} (hn : (lnN es).Nodup) {i : Nat} {r : Ln} (h : es[i]? = some r) : putT (enD (es.take i)) (.inr r.1) (lnD r) = enD (es.take (i + 1)) := by
  rw [enD_put, take_succ_some h]
  intro hm
  have e : lnN es = lnN (es.take i) ++ (r.1 :: lnN (es.drop (i + 1))) := by
    obtain ⟨hi, rfl⟩ := List.getElem?_eq_some_iff.mp h
    unfold lnN
    have e2 : es = es.take i ++ es[i] :: es.drop (i + 1) := by rw [List.getElem_cons_drop, List.take_append_drop]
    exact (congrArg (List.map fun x : Ln => x.1) e2).trans List.map_append
  rw [e, List.nodup_append] at hn
  exact hn.2.2 _ hm _ List.mem_cons_self rfl
theorem enD_at {es : List Ln} {i : Nat} {kv : Key × D} (h : (enD es)[i]? = some kv) : ∃ r, es[i]? = some r ∧ kv = (.inr r.1, lnD r) := by
  unfold enD at h
  rw [List.getElem?_map] at h
  obtain ⟨r, h1, h2⟩ := Option.map_eq_some_iff.mp h
  exact ⟨r, h1, h2.symm⟩
theorem lnN_at {es : List Ln} {i : Nat} {r : Ln} (h : es[i]? = some r) : (lnN es)[i]? = some r.1 := by
  unfold lnN
  rw [List.getElem?_map, h]
  rfl
def ct_Net___init (K : PySem.W.Frag) : Ct := Ct3 fun s o e ka out => ∃ a t b ps es, s = .val (.adr a) ∧ ka = [(a, .ins (He.ga K "Net") [])] ∧ Lk ka o t (stD ps) b ∧ ps.length ≤ 50000 ∧ es.length ≤ 50000 ∧ (lnN es).Nodup ∧ ((e = .val .non ∧ es = []) ∨ e = .val (.dic (enD es))) ∧
  out = fun o' k => ∃ o d, o' = .ret .non ∧ k = NetC K a o d ps es
section
variable {P : Program} {w : World} {K : PySem.W.Frag} {mg : Str → Option Value} {base : Heap}
theorem ok_Net___init (T : Tx K mg) : FnE P w K mg base 4 (He.ma K (He.ga K "Net") "__init__") ["self", "order", "ends_by_lane"] [.ref (He.dflAt ("Net", some "__init__") 0 K), .non] (ct_Net___init K) := by
  obtain ⟨fd, F⟩ := T.d_Net___init
  refine fn_okE F sc_Net___init (F.binds1 1 0 (by simp) rfl fun _ _ _ _ _ _ _ us its hu hi => match us, its, hu, hi with | [_], [_, _], _, _ => ⟨_, rfl, rfl⟩) (F.binds1 3 2 (by simp) rfl fun _ _ _ _ _ _ _ us its hu hi => match us, its, hu, hi with | [_, _, _], [_, _], _, _ => ⟨_, rfl, rfl⟩) ct3_len (fun cdv A outer s H E hr => ⟨_, (pss_cons (ps_set (i := 3) sc_Net___init.nd rfl (by first | exact Or.inl rfl | exact Or.inr rfl) (pe_ifExp (pt_cmpR op_isN1 (pv 2) pe_non (nomark _)) pe_dnewK (pv 2)))
      (pss_cons (ps_fld (pv 0) (pe_callTy call_lstU rfl T.n_list (by decide +kernel) (pa_cons (pv 1) pa_nil)) rfl)
      (pss_one (ps_fld (pv 0) (pe_lkE (pe_dc (tk := (tVar 4)) (tv := (tDGet (tVar 3) (tVar 4))) (tt := tYes) (own := [("lane", 4)]) rfl sc_Net___init.nd (pi_keys (pv 3)) (blk_ok ["self", "order", "ends_by_lane", "known", "lane"] (defScope s_Net___init) rfl rfl (by decide +kernel)) (fun _ _ _ _ _ => (pg_name (i := 4) sc_Net___init.nd rfl (by first | exact Or.inl rfl | exact Or.inr rfl))) (fun _ _ _ _ _ => pts_nil) (fun _ _ _ _ _ => (pv 4)) (fun _ _ _ _ _ => (pe_dget (hu1 hr) (pv 3) (pv 4) fun _ _ => rfl)))) rfl)))), fun ws ka out B F0 Q hC hR hX => ?_⟩)
  obtain ⟨s, o, e, rfl, a, t, b, ps, es, rfl, rfl, lo, hps, hes, hn, he, rfl⟩ := hC
  have main : Gp K B F0 [] (tSeq (sFld K (tVar 0) (tCB (rLstU K) (tCons (tVar 1) tNil)) "order") (sFld K (tVar 0) (tLkE (tDc (iKeys (tVar 3)) (gName 4) tYes (tVar 4) (tDGet (tVar 3) (tVar 4)) [4])) "ends_by_lane") { nx := fun _ H' => Q .non H', rt := Q })
      [some (.val (.adr a)), some o, some e, some (.val (.dic (enD es))), none] [(a, .ins (He.ga K "Net") [])] := by
    refine q_fldR (C := He.ga K "Net") (a := a) (evn_cb (ea1 (ev_var rfl)) (rcn_lst lo (sqf_stD b ps))).toR T.cl_Net T.na_Net_order (fun w k1 ⟨p, h1, h2⟩ => ⟨.adr p, k1, 0, [], h1, ev_var rfl, by rw [h2]; rfl, by decide, ?_⟩)
    subst h2
    refine g_fldR (C := He.ga K "Net") (a := a) (evr_dcK (evp_var rfl) (by simp) (by rw [enD_len]; omega) (fun i acc k => acc = enD (es.take i) ∧ k = [(a, .ins (He.ga K "Net") [("order", .adr p)]), (p, .lst (stD ps))]) ⟨rfl, rfl⟩ (fun i kv acc k hk ⟨e1, e2⟩ => ?_)).toR T.cl_Net T.na_Net_ends_by_lane (fun w k1 ⟨d, n, k0, h1, ⟨acc, h2, h3, h4⟩, h5⟩ => ⟨.adr d, k1, 0, [("order", .adr p)], h1, ev_var rfl, by rw [h5, h4]; rfl, (show 1 < 900 by decide), ?_⟩)
    · obtain ⟨r, hr1, rfl⟩ := enD_at hk
      subst e1 e2
      exact .inr ⟨_, _, _, .inr r.1, lnD r, et_yes, ev_var rfl, ev_dgetV (ev_var rfl) (ev_var rfl) .v (enD_get hn hr1), enD_take hn hr1, rfl⟩
    · subst h5 h4 h2 h3
      rw [enD_len, List.take_length]
      exact g_end hR ⟨p, d, rfl, rfl⟩
  rcases he with ⟨rfl, rfl⟩ | rfl
  · exact q_asgR (evr_ifT ((et_test (ev_isN (ev_var rfl))).to rfl) evn_dnew.toR) fun w k1 ⟨a1, h1, h2⟩ => by
      subst h1 h2
      exact Gp.frzK (i := 3) rfl (List.Perm.refl _) main
  · exact q_asg (ev_ifF ((et_test (ev_isN (ev_var rfl))).to rfl) (ev_var rfl)) main
end
/-- w is a net: its two fields -/
structure NetW (K : PySem.W.Frag) (ka : Cells) (s : W) (ps : List Str) (es : List Ln) : Prop where
  as : s = .val (NetD K ps es) ∨ ∃ a o d, s = .val (.adr a) ∧ ka = NetC K a o d ps es
theorem NetW.order {K : PySem.W.Frag} {ka : Cells} {s : W} {ps : List Str} {es : List Ln} {te : TE} {ro : Ro} (h : NetW K ka s ps es) (c : Cls K (He.ga K "Net")) (nf : NoAttr K (He.ga K "Net") "order") (he : EvD K te ro ka s ka) :
    ∃ x, EvD K (tFld K te "order") ro ka x ka ∧ Lk ka x false (stD ps) false := by
  rcases h.as with rfl | ⟨a, o, d, rfl, rfl⟩
  · exact ⟨_, ev_fld he .v c nf rfl, .vl⟩
  · exact ⟨_, ev_fld he (.c 0 rfl) c nf rfl, .ce 1 rfl⟩
theorem NetW.ends {K : PySem.W.Frag} {ka : Cells} {s : W} {ps : List Str} {es : List Ln} {te : TE} {ro : Ro} (h : NetW K ka s ps es) (c : Cls K (He.ga K "Net")) (nf : NoAttr K (He.ga K "Net") "ends_by_lane") (he : EvD K te ro ka s ka) :
    ∃ x, EvD K (tFld K te "ends_by_lane") ro ka x ka ∧ Dk ka x (enD es) false := by
  rcases h.as with rfl | ⟨a, o, d, rfl, rfl⟩
  · exact ⟨_, ev_fld he .v c nf rfl, .v⟩
  · exact ⟨_, ev_fld he (.c 0 rfl) c nf rfl, .ce 2 rfl⟩
def ct_Net_posts (K : PySem.W.Frag) : Ct := Ct1 fun s ka out => ∃ ps es, NetW K ka s ps es ∧ out = Rt (.tup (stD ps)) ka
section
variable {P : Program} {w : World} {K : PySem.W.Frag} {mg : Str → Option Value} {base : Heap}
theorem ok_Net_posts (T : Tx K mg) : Fn P w K mg base 4 (pga K (He.ga K "Net") "posts") ["self"] (ct_Net_posts K) := by
  obtain ⟨fd, F⟩ := T.d_Net_posts
  refine fn_ok F sc_Net_posts (fun _ _ _ _ _ _ us hl => match us, hl with | [_], _ => rfl) ct1_len (fun cdv A outer s H E hr => ⟨_, (pss_one (ps_ret (pe_callTy call_tupU rfl T.n_tuple (by decide +kernel) (pa_cons (pe_fld (pv 0) rfl) pa_nil)))), fun ws ka out B F0 Q hC hR hX => ?_⟩)
  obtain ⟨s, rfl, ps, es, h, rfl⟩ := hC
  obtain ⟨x, h1, h2⟩ := h.order T.cl_Net T.na_Net_order (te := tVar 0) (ro := [some s]) (ev_var rfl)
  exact g_ret hR (ev_cb (ea1 h1) (rc_tupL h2 (sqf_stD _ _))) ⟨rfl, rfl⟩
end
def ct_Net_lanes (K : PySem.W.Frag) : Ct := Ct1 fun s ka out => ∃ ps es, s = .val (NetD K ps es) ∧ es.length ≤ 50000 ∧ ka = [] ∧ out = Rt (.tup (stD (lnN es))) []
section
variable {P : Program} {w : World} {K : PySem.W.Frag} {mg : Str → Option Value} {base : Heap}
theorem ok_Net_lanes (T : Tx K mg) : Fn P w K mg base 4 (pga K (He.ga K "Net") "lanes") ["self"] (ct_Net_lanes K) := by
  obtain ⟨fd, F⟩ := T.d_Net_lanes
  refine fn_ok F sc_Net_lanes (fun _ _ _ _ _ _ us hl => match us, hl with | [_], _ => rfl) ct1_len (fun cdv A outer s H E hr => ⟨_, (pss_one (ps_ret (pe_callTy call_tupU rfl T.n_tuple (by decide +kernel) (pa_cons (pe_lkE (pe_lc (te := (tVar 1)) (tt := tYes) (own := [("lane", 1)]) rfl sc_Net_lanes.nd (pi_keys (pe_fld (pv 0) rfl)) (blk_ok ["self", "lane"] (defScope s_Net_lanes) rfl rfl (by decide +kernel)) (fun _ _ _ _ _ => (pg_name (i := 1) sc_Net_lanes.nd rfl (by first | exact Or.inl rfl | exact Or.inr rfl))) (fun _ _ _ _ _ => pts_nil) (fun _ _ _ _ _ => (pv 1)))) pa_nil)))), fun ws ka out B F0 Q hC hR hX => ?_⟩)
  obtain ⟨s, rfl, ps, es, rfl, hl, rfl, rfl⟩ := hC
  refine g_ret hR (ev_cb (ea1 ((evr_lcK (evp_fld (evp_var rfl) T.cl_Net T.na_Net_ends_by_lane rfl) (by decide) (by rw [enD_len]; omega) (fun i acc k => acc = stD (lnN (es.take i)) ∧ k = []) ⟨rfl, rfl⟩ (fun i kv acc k hk ⟨e1, e2⟩ => ?_)).lstD (ds := stD (lnN es)) fun n k ⟨acc, e1, e2, e3⟩ => ⟨?_, e3⟩)) (rc_tupL .vl (.inl rfl))) ⟨rfl, rfl⟩
  all_goals first
    | (rw [e1, e2, enD_len, List.take_length]; done)
    | (subst e1 e2
       obtain ⟨r, hr2, rfl⟩ := enD_at hk
       refine .inr ⟨_, _, .str r.1, et_yes, ev_var rfl, ?_, rfl⟩
       rw [take_succ_some hr2]
       have e : lnN (es.take i ++ [r]) = lnN (es.take i) ++ [r.1] := List.map_append
       rw [e, ← stD_app]
       rfl)
end
/-- how post ends -/
def poO (K : PySem.W.Frag) (a o d : Addr) (ps : List Str) (es : List Ln) (x : D) : Oc :=
  if isNmD x = false then Xt (He.ga K "BadName") [("name", x)] (NetC K a o d ps es)
  else match x with
    | .str s => if s ∈ ps then Xt (He.ga K "NameTaken") [("name", x)] (NetC K a o d ps es) else Rt .non (NetC K a o d (ps ++ [s]) es)
    | _ => fun _ _ => True
def ct_Net_post (K : PySem.W.Frag) : Ct := Ct2 fun s b ka out => ∃ a o d ps es x, s = .val (.adr a) ∧ b = .val x ∧ nmOk x ∧ ps.length < 50000 ∧ ka = NetC K a o d ps es ∧ out = poO K a o d ps es x
section
variable {P : Program} {w : World} {K : PySem.W.Frag} {mg : Str → Option Value} {base : Heap}
theorem ok_Net_post (T : Tx K mg) (F_is_name : Fn P w K mg base 4 (He.ga K "is_name") ["word"] (ct_is_name K)) (Z_BadName : Xn P w K mg base (He.ga K "BadName") "name") (Z_NameTaken : Xn P w K mg base (He.ga K "NameTaken") "name") : Fn P w K mg base 6 (He.ma K (He.ga K "Net") "post") ["self", "name"] (ct_Net_post K) := by
  obtain ⟨fd, F⟩ := T.d_Net_post
  refine fn_ok F sc_Net_post (fun _ _ _ _ _ _ us hl => match us, hl with | [_, _], _ => rfl) ct2_len (fun cdv A outer s H E hr => ⟨_, (pss_cons (ps_if (pt_not (pt_val (pe_call (F_is_name.up (by decide)).ok hr rfl T.g_is_name.1 T.g_is_name.2 (F_is_name.up (by decide)).bn .nil (pass_own rfl rfl rfl rfl) (pa_cons (pv 1) pa_nil))))
      (pss_one (ps_raise rfl (takes_of rfl rfl rfl rfl) (pmk_oex Z_BadName.xc.oex Z_BadName.all.1 Z_BadName.all.2.1 Z_BadName.all.2.2.1 (hr.mono (by decide)) Z_BadName.all.2.2.2 .nil passes_no rfl T.g_BadName.1 (pa_cons (pv 1) pa_nil))))
      pss_nil)
      (pss_cons (ps_if (pt_cmpR op_inU (pv 1) (pe_fld (pv 0) rfl) (by with_unfolding_all rfl))
      (pss_one (ps_raise rfl (takes_of rfl rfl rfl rfl) (pmk_oex Z_NameTaken.xc.oex Z_NameTaken.all.1 Z_NameTaken.all.2.1 Z_NameTaken.all.2.2.1 (hr.mono (by decide)) Z_NameTaken.all.2.2.2 .nil passes_no rfl T.g_NameTaken.1 (pa_cons (pv 1) pa_nil))))
      pss_nil)
      (pss_one (ps_expr (pe_bm PySem.F.plainAttrs_list PySem.F.slot_list_append PySem.F.type_list_append mt_append (pe_fld (pv 0) rfl) (pa_cons (pv 1) pa_nil)))))), fun ws ka out B F0 Q hC hR hX => ?_⟩)
  obtain ⟨s, b, rfl, a, o, d, ps, es, x, rfl, rfl, hx, hl, rfl, rfl⟩ := hC
  refine q_when (et_not (et_B (ev_callP (ea1 (ev_var rfl)) ⟨_, rfl, x, rfl, hx, rfl, rfl⟩))) (fun hb => g_raise1 hX (ea1 (ev_var rfl)) Z_BadName.xc.oex Z_BadName.no ?_) (fun hb => ?_)
  · rw [Bool.not_eq_true'] at hb
    unfold poO
    rw [if_pos hb]
    exact ⟨rfl, rfl⟩
  rw [Bool.not_eq_false'] at hb
  have hs : ∃ s, x = .str s := by
    cases x with
    | str s => exact ⟨s, rfl⟩
    | _ => cases hb
  obtain ⟨s, rfl⟩ := hs
  have fo : ∀ {ro : Ro}, ro[0]? = some (some (.val (.adr a))) → EvD K (tFld K (tVar 0) "order") ro (NetC K a o d ps es) (.val (.adr o)) (NetC K a o d ps es) := fun h => ev_fld (ev_var h) (.c 0 rfl) T.cl_Net T.na_Net_order rfl
  refine q_when (et_test (ev_inL (ev_var rfl) (fo rfl) (.ce 1 rfl))) (fun hm => g_raise1 hX (ea1 (ev_var rfl)) Z_NameTaken.xc.oex Z_NameTaken.no ?_) (fun hm => ?_)
  · rw [decide_eq_true_eq] at hm
    unfold poO
    rw [if_neg (by rw [hb]; decide)]
    show (if s ∈ ps then _ else _ : Oc) _ _
    rw [if_pos hm]
    exact ⟨rfl, rfl⟩
  · rw [decide_eq_false_iff_not] at hm
    refine g_app (j0 := 1) (j := 1) (fo rfl) rfl (ev_var rfl) rfl (by rw [stD_len]; omega) (g_end hR ?_)
    unfold poO
    rw [if_neg (by rw [hb]; decide)]
    show (if s ∈ ps then _ else _ : Oc) _ _
    rw [if_neg hm]
    refine ⟨rfl, ?_⟩
    unfold NetC
    rw [← stD_app]
    rfl
end
/-- how lane ends -/
def laO (K : PySem.W.Frag) (a o d : Addr) (ps : List Str) (es : List Ln) (x : D) (st en : Str) : Oc :=
  if isNmD x = false then Xt (He.ga K "BadName") [("name", x)] (NetC K a o d ps es)
  else match x with
    | .str s => if s ∈ lnN es then Xt (He.ga K "NameTaken") [("name", x)] (NetC K a o d ps es) else if ¬ st ∈ ps then Xt (He.ga K "NoPost") [("name", .str st)] (NetC K a o d ps es) else if ¬ en ∈ ps then Xt (He.ga K "NoPost") [("name", .str en)] (NetC K a o d ps es)
      else Rt .non (NetC K a o d ps (es ++ [(s, st, en)]))
    | _ => fun _ _ => True
def ct_Net_lane (K : PySem.W.Frag) : Ct := Ct4 fun s b c e ka out => ∃ a o d ps es x st en, s = .val (.adr a) ∧ b = .val x ∧ nmOk x ∧ c = .val (.str st) ∧ e = .val (.str en) ∧ es.length < 50000 ∧ ka = NetC K a o d ps es ∧ out = laO K a o d ps es x st en
section
variable {P : Program} {w : World} {K : PySem.W.Frag} {mg : Str → Option Value} {base : Heap}
theorem ok_Net_lane (T : Tx K mg) (F_is_name : Fn P w K mg base 4 (He.ga K "is_name") ["word"] (ct_is_name K)) (Z_BadName : Xn P w K mg base (He.ga K "BadName") "name") (Z_NameTaken : Xn P w K mg base (He.ga K "NameTaken") "name") (Z_NoPost : Xn P w K mg base (He.ga K "NoPost") "name") : Fn P w K mg base 6 (He.ma K (He.ga K "Net") "lane") ["self", "name", "start", "end"] (ct_Net_lane K) := by
  obtain ⟨fd, F⟩ := T.d_Net_lane
  refine fn_ok F sc_Net_lane (fun _ _ _ _ _ _ us hl => match us, hl with | [_, _, _, _], _ => rfl) ct4_len (fun cdv A outer s H E hr => ⟨_, (pss_cons (ps_if (pt_not (pt_val (pe_call (F_is_name.up (by decide)).ok hr rfl T.g_is_name.1 T.g_is_name.2 (F_is_name.up (by decide)).bn .nil (pass_own rfl rfl rfl rfl) (pa_cons (pv 1) pa_nil))))
      (pss_one (ps_raise rfl (takes_of rfl rfl rfl rfl) (pmk_oex Z_BadName.xc.oex Z_BadName.all.1 Z_BadName.all.2.1 Z_BadName.all.2.2.1 (hr.mono (by decide)) Z_BadName.all.2.2.2 .nil passes_no rfl T.g_BadName.1 (pa_cons (pv 1) pa_nil))))
      pss_nil)
      (pss_cons (ps_if (pt_cmp (pc_din (hu1 hr) (pv 1) (pe_fld (pv 0) rfl)) (by with_unfolding_all rfl))
      (pss_one (ps_raise rfl (takes_of rfl rfl rfl rfl) (pmk_oex Z_NameTaken.xc.oex Z_NameTaken.all.1 Z_NameTaken.all.2.1 Z_NameTaken.all.2.2.1 (hr.mono (by decide)) Z_NameTaken.all.2.2.2 .nil passes_no rfl T.g_NameTaken.1 (pa_cons (pv 1) pa_nil))))
      pss_nil)
      (pss_cons (ps_for (passes_of rfl) rfl (pi_seq (pe_tup (pa_cons (pv 2) (pa_cons (pv 3) pa_nil)))) (pg_name (i := 4) sc_Net_lane.nd rfl (by first | exact Or.inl rfl | exact Or.inr rfl)) (pss_one (ps_if (pt_cmpR op_niU (pv 4) (pe_fld (pv 0) rfl) (by with_unfolding_all rfl))
      (pss_one (ps_raise rfl (takes_of rfl rfl rfl rfl) (pmk_oex Z_NoPost.xc.oex Z_NoPost.all.1 Z_NoPost.all.2.1 Z_NoPost.all.2.2.1 (hr.mono (by decide)) Z_NoPost.all.2.2.2 .nil passes_no rfl T.g_NoPost.1 (pa_cons (pv 4) pa_nil))))
      pss_nil)))
      (pss_one (ps_dput (hu1 hr) (pe_fld (pv 0) rfl) (pv 1) (pe_tup (pa_cons (pv 2) (pa_cons (pv 3) pa_nil))) rfl))))), fun ws ka out B F0 Q hC hR hX => ?_⟩)
  obtain ⟨s, b, c, e, rfl, a, o, d, ps, es, x, st, en, rfl, rfl, hx, rfl, rfl, hl, rfl, rfl⟩ := hC
  refine q_when (et_not (et_B (ev_callP (ea1 (ev_var rfl)) ⟨_, rfl, x, rfl, hx, rfl, rfl⟩))) (fun hb => g_raise1 hX (ea1 (ev_var rfl)) Z_BadName.xc.oex Z_BadName.no ?_) (fun hb => ?_)
  · rw [Bool.not_eq_true'] at hb
    unfold laO
    rw [if_pos hb]
    exact ⟨rfl, rfl⟩
  rw [Bool.not_eq_false'] at hb
  have hs : ∃ s, x = .str s := by
    cases x with
    | str s => exact ⟨s, rfl⟩
    | _ => cases hb
  obtain ⟨s, rfl⟩ := hs
  have hb' : ¬ isNmD (.str s) = false := by rw [hb]; decide
  have fo : ∀ {ro : Ro}, ro[0]? = some (some (.val (.adr a))) → EvD K (tFld K (tVar 0) "order") ro (NetC K a o d ps es) (.val (.adr o)) (NetC K a o d ps es) := fun h => ev_fld (ev_var h) (.c 0 rfl) T.cl_Net T.na_Net_order rfl
  have fe : ∀ {ro : Ro}, ro[0]? = some (some (.val (.adr a))) → EvD K (tFld K (tVar 0) "ends_by_lane") ro (NetC K a o d ps es) (.val (.adr d)) (NetC K a o d ps es) := fun h => ev_fld (ev_var h) (.c 0 rfl) T.cl_Net T.na_Net_ends_by_lane rfl
  refine q_when (et_B ((ev_din (ev_var rfl) (fe rfl) (.ce 2 rfl)).to (by rw [enD_in]))) (fun hm => g_raise1 hX (ea1 (ev_var rfl)) Z_NameTaken.xc.oex Z_NameTaken.no ?_) (fun hm => ?_)
  · rw [decide_eq_true_eq] at hm
    unfold laO
    rw [if_neg hb']
    show (if s ∈ lnN es then _ else _ : Oc) _ _
    rw [if_pos hm]
    exact ⟨rfl, rfl⟩
  rw [decide_eq_false_iff_not] at hm
  have hO : laO K a o d ps es (.str s) st en = if ¬ st ∈ ps then Xt (He.ga K "NoPost") [("name", .str st)] (NetC K a o d ps es) else if ¬ en ∈ ps then Xt (He.ga K "NoPost") [("name", .str en)] (NetC K a o d ps es)
        else Rt .non (NetC K a o d ps (es ++ [(s, st, en)])) := by
    unfold laO
    rw [if_neg hb']
    show (if s ∈ lnN es then _ else _ : Oc) = _
    rw [if_neg hm]
  rw [hO] at hR hX
  refine q_forn (ei_seq (ev_tup (ds := [.str st, .str en]) (ea2 (ev_var rfl) (ev_var rfl)) (show 2 ≤ 100000 by decide)) .vt) (fun i ro ka' => ∃ v, ro = [some (.val (.adr a)), some (.val (.str s)), some (.val (.str st)), some (.val (.str en)), v] ∧ ka' = NetC K a o d ps es ∧ (0 < i → st ∈ ps) ∧ (1 < i → en ∈ ps)) ⟨none, rfl, rfl, fun z => absurd z (by decide), fun z => absurd z (by decide)⟩ (fun i ro2 ka2 _ => trivial) (fun i w ro2 ka2 ta' hw ⟨v, e1, e2, h1, h2⟩ => ?_) (fun ro2 ka2 ta' ⟨v, e1, e2, h1, h2⟩ _ => ?_)
  · subst e1 e2
    match i, hw with
    | 0, hw =>
      cases hw
      refine g_if (et_test (ev_niL (ev_var rfl) (fo rfl) (.ce 1 rfl))) (fun hm => g_raise1 hX (ea1 (ev_var rfl)) Z_NoPost.xc.oex Z_NoPost.no ?_) (fun hm => g_next (g_jp ⟨_, rfl, rfl, fun _ => ?_, fun z => by omega⟩))
      · rw [Bool.not_eq_true', decide_eq_false_iff_not] at hm
        rw [if_pos hm]
        exact ⟨rfl, rfl⟩
      · rw [Bool.not_eq_false', decide_eq_true_eq] at hm
        exact hm
    | 1, hw =>
      cases hw
      refine g_if (et_test (ev_niL (ev_var rfl) (fo rfl) (.ce 1 rfl))) (fun hm => g_raise1 hX (ea1 (ev_var rfl)) Z_NoPost.xc.oex Z_NoPost.no ?_) (fun hm => g_next (g_jp ⟨_, rfl, rfl, fun _ => h1 (by decide), fun _ => ?_⟩))
      · rw [Bool.not_eq_true', decide_eq_false_iff_not] at hm
        rw [if_neg (fun z => z (h1 (by decide))), if_pos hm]
        exact ⟨rfl, rfl⟩
      · rw [Bool.not_eq_false', decide_eq_true_eq] at hm
        exact hm
    | i + 2, hw => simp at hw
  · subst e1 e2
    have h1 := h1 (show 0 < 2 by decide)
    have h2 := h2 (show 1 < 2 by decide)
    refine g_dput (j := 2) (ev_tup (ds := [.str st, .str en]) (ea2 (ev_var rfl) (ev_var rfl)) (show 2 ≤ 100000 by decide)) (fe rfl) (ev_var rfl) rfl (by rw [enD_len]; omega) (g_end hR ?_)
    rw [if_neg (fun z => z h1), if_neg (fun z => z h2)]
    refine ⟨rfl, ?_⟩
    have := enD_put (r := (s, st, en)) hm
    unfold NetC
    rw [← this]
    rfl
end
def ct_Net_start_of (K : PySem.W.Frag) : Ct := Ct2 fun s b ka out => ∃ ps es l, NetW K ka s ps es ∧ b = .val (.str l) ∧ (lnN es).Nodup ∧ ((∃ r ∈ es, r.1 = l ∧ out = Rt (.str r.2.1) ka) ∨ (¬ l ∈ lnN es ∧ out = Xt (He.ga K "NoLane") [("name", .str l)] ka))
section
variable {P : Program} {w : World} {K : PySem.W.Frag} {mg : Str → Option Value} {base : Heap}
theorem ok_Net_start_of (T : Tx K mg) (Z_NoLane : Xn P w K mg base (He.ga K "NoLane") "name") : Fn P w K mg base 4 (He.ma K (He.ga K "Net") "start_of") ["self", "lane"] (ct_Net_start_of K) := by
  obtain ⟨fd, F⟩ := T.d_Net_start_of
  refine fn_ok F sc_Net_start_of (fun _ _ _ _ _ _ us hl => match us, hl with | [_, _], _ => rfl) ct2_len (fun cdv A outer s H E hr => ⟨_, (pss_cons (ps_if (pt_cmp (pc_dnotin (hu1 hr) (pv 1) (pe_fld (pv 0) rfl)) (by with_unfolding_all rfl))
      (pss_one (ps_raise rfl (takes_of rfl rfl rfl rfl) (pmk_oex Z_NoLane.xc.oex Z_NoLane.all.1 Z_NoLane.all.2.1 Z_NoLane.all.2.2.1 (hr.mono (by decide)) Z_NoLane.all.2.2.2 .nil passes_no rfl T.g_NoLane.1 (pa_cons (pv 1) pa_nil))))
      pss_nil)
      (pss_one (ps_ret (pe_ix ix_seq (pe_dget (hu1 hr) (pe_fld (pv 0) rfl) (pv 1) fun _ _ => rfl) pe_int fun _ _ => rfl)))), fun ws ka out B F0 Q hC hR hX => ?_⟩)
  obtain ⟨s, b, rfl, ps, es, l, h, rfl, hn, ho⟩ := hC
  obtain ⟨x, h1, h2⟩ := h.ends T.cl_Net T.na_Net_ends_by_lane (te := tVar 0) (ro := [some s, some (.val (.str l))]) (ev_var rfl)
  refine q_when (et_B ((ev_dni (ev_var rfl) h1 h2).to (by rw [enD_in]))) (fun hb => ?_) (fun hb => ?_)
  · rw [Bool.not_eq_true', decide_eq_false_iff_not] at hb
    refine g_raise1 hX (ea1 (ev_var rfl)) Z_NoLane.xc.oex Z_NoLane.no ?_
    rcases ho with ⟨r, hr, e, _⟩ | ⟨_, rfl⟩
    · exact absurd (List.mem_map.mpr ⟨r, hr, e⟩) hb
    · exact ⟨rfl, rfl⟩
  · rw [Bool.not_eq_false', decide_eq_true_eq] at hb
    rcases ho with ⟨r, hr, rfl, rfl⟩ | ⟨z, _⟩
    · obtain ⟨i, hi⟩ := List.mem_iff_getElem?.mp hr
      exact g_ret hR (ev_ixV (ev_dgetV (d := lnD r) h1 (ev_var rfl) h2 (enD_get hn hi)) ev_int .vt (atI_nat (j := 0) rfl)) ⟨rfl, rfl⟩
    · exact absurd hb z
end
def ct_Net_end_of (K : PySem.W.Frag) : Ct := Ct2 fun s b ka out => ∃ ps es l, NetW K ka s ps es ∧ b = .val (.str l) ∧ (lnN es).Nodup ∧ ((∃ r ∈ es, r.1 = l ∧ out = Rt (.str r.2.2) ka) ∨ (¬ l ∈ lnN es ∧ out = Xt (He.ga K "NoLane") [("name", .str l)] ka))
section
variable {P : Program} {w : World} {K : PySem.W.Frag} {mg : Str → Option Value} {base : Heap}
theorem ok_Net_end_of (T : Tx K mg) (Z_NoLane : Xn P w K mg base (He.ga K "NoLane") "name") : Fn P w K mg base 4 (He.ma K (He.ga K "Net") "end_of") ["self", "lane"] (ct_Net_end_of K) := by
  obtain ⟨fd, F⟩ := T.d_Net_end_of
  refine fn_ok F sc_Net_end_of (fun _ _ _ _ _ _ us hl => match us, hl with | [_, _], _ => rfl) ct2_len (fun cdv A outer s H E hr => ⟨_, (pss_cons (ps_if (pt_cmp (pc_dnotin (hu1 hr) (pv 1) (pe_fld (pv 0) rfl)) (by with_unfolding_all rfl))
      (pss_one (ps_raise rfl (takes_of rfl rfl rfl rfl) (pmk_oex Z_NoLane.xc.oex Z_NoLane.all.1 Z_NoLane.all.2.1 Z_NoLane.all.2.2.1 (hr.mono (by decide)) Z_NoLane.all.2.2.2 .nil passes_no rfl T.g_NoLane.1 (pa_cons (pv 1) pa_nil))))
      pss_nil)
      (pss_one (ps_ret (pe_ix ix_seq (pe_dget (hu1 hr) (pe_fld (pv 0) rfl) (pv 1) fun _ _ => rfl) pe_int fun _ _ => rfl)))), fun ws ka out B F0 Q hC hR hX => ?_⟩)
  obtain ⟨s, b, rfl, ps, es, l, h, rfl, hn, ho⟩ := hC
  obtain ⟨x, h1, h2⟩ := h.ends T.cl_Net T.na_Net_ends_by_lane (te := tVar 0) (ro := [some s, some (.val (.str l))]) (ev_var rfl)
  refine q_when (et_B ((ev_dni (ev_var rfl) h1 h2).to (by rw [enD_in]))) (fun hb => ?_) (fun hb => ?_)
  · rw [Bool.not_eq_true', decide_eq_false_iff_not] at hb
    refine g_raise1 hX (ea1 (ev_var rfl)) Z_NoLane.xc.oex Z_NoLane.no ?_
    rcases ho with ⟨r, hr, e, _⟩ | ⟨_, rfl⟩
    · exact absurd (List.mem_map.mpr ⟨r, hr, e⟩) hb
    · exact ⟨rfl, rfl⟩
  · rw [Bool.not_eq_false', decide_eq_true_eq] at hb
    rcases ho with ⟨r, hr, rfl, rfl⟩ | ⟨z, _⟩
    · obtain ⟨i, hi⟩ := List.mem_iff_getElem?.mp hr
      exact g_ret hR (ev_ixV (ev_dgetV (d := lnD r) h1 (ev_var rfl) h2 (enD_get hn hi)) ev_int .vt (atI_nat (j := 1) rfl)) ⟨rfl, rfl⟩
    · exact absurd hb z
end
def ct_Net_copy (K : PySem.W.Frag) : Ct := Ct1 fun s ka out => ∃ ps es, s = .val (NetD K ps es) ∧ ps.length ≤ 50000 ∧ es.length ≤ 50000 ∧ (lnN es).Nodup ∧ ka = [] ∧ out = fun o' k => ∃ a o d, o' = .ret (.adr a) ∧ k = NetC K a o d ps es
section
variable {P : Program} {w : World} {K : PySem.W.Frag} {mg : Str → Option Value} {base : Heap}
theorem ok_Net_copy (T : Tx K mg) (F_Net___init : FnE P w K mg base 4 (He.ma K (He.ga K "Net") "__init__") ["self", "order", "ends_by_lane"] [.ref (He.dflAt ("Net", some "__init__") 0 K), .non] (ct_Net___init K)) : Fn P w K mg base 6 (He.ma K (He.ga K "Net") "copy") ["self"] (ct_Net_copy K) := by
  obtain ⟨fd, F⟩ := T.d_Net_copy
  refine fn_ok F sc_Net_copy (fun _ _ _ _ _ _ us hl => match us, hl with | [_], _ => rfl) ct1_len (fun cdv A outer s H E hr => ⟨_, (pss_one (ps_ret (pe_make T.mk_Net (F_Net___init.a.up (by decide)).ok hr rfl T.g_Net.1 (F_Net___init.a.up (by decide)).bn .nil (pass_own rfl rfl rfl rfl) (pa_cons (pe_fld (pv 0) rfl) (pa_cons (pe_fld (pv 0) rfl) pa_nil))))), fun ws ka out B F0 Q hC hR hX => ?_⟩)
  obtain ⟨s, rfl, ps, es, rfl, hl, hel, hn, rfl, rfl⟩ := hC
  refine g_retE (Q := fun w k => ∃ a o d, w = .val (.adr a) ∧ k = NetC K a o d ps es) hR (evr_make (wd := []) (k1 := []) (ea2 (ev_fld (ev_var rfl) .v T.cl_Net T.na_Net_order rfl) (ev_fld (ev_var rfl) .v T.cl_Net T.na_Net_ends_by_lane rfl)) dv_nil (fun a => ⟨_, ⟨_, _, _, rfl, a, false, false, ps, es, rfl, rfl, .vl, hl, hel, hn, .inr rfl, rfl⟩, fun o k ⟨o2, d, e1, e2⟩ => ⟨e1, a, o2, d, rfl, e2⟩⟩)) (fun w k ⟨a, o, d, e1, e2⟩ => ⟨.adr a, e1, a, o, d, rfl, e2⟩)
end
def cut1E (es : List Ln) (l : Str) : List Ln := es.filter fun r => !decide (r.1 = l)
theorem enD_drop1 (es : List Ln) (l : Str) : dropT (enD es) (.inr l) = enD (cut1E es l) := by
  unfold dropT enD cut1E
  rw [List.filter_map]
  congr 1
  refine List.filter_congr fun r _ => ?_
  show decide ((Sum.inr r.1 : Int ⊕ Str) ≠ .inr l) = !decide (r.1 = l)
  rw [Bool.eq_iff_iff]
  simp
def ct_Net_cut (K : PySem.W.Frag) : Ct := Ct2 fun s b ka out => ∃ a o d ps es l, s = .val (.adr a) ∧ b = .val (.str l) ∧ ka = NetC K a o d ps es ∧ (lnN es).Nodup ∧ out = if l ∈ lnN es then Rt .non (NetC K a o d ps (cut1E es l)) else Xt (He.ga K "NoLane") [("name", .str l)] (NetC K a o d ps es)
section
variable {P : Program} {w : World} {K : PySem.W.Frag} {mg : Str → Option Value} {base : Heap}
theorem ok_Net_cut (T : Tx K mg) (Z_NoLane : Xn P w K mg base (He.ga K "NoLane") "name") : Fn P w K mg base 4 (He.ma K (He.ga K "Net") "cut") ["self", "lane"] (ct_Net_cut K) := by
  obtain ⟨fd, F⟩ := T.d_Net_cut
  refine fn_ok F sc_Net_cut (fun _ _ _ _ _ _ us hl => match us, hl with | [_, _], _ => rfl) ct2_len (fun cdv A outer s H E hr => ⟨_, (pss_cons (ps_if (pt_cmp (pc_dnotin (hu1 hr) (pv 1) (pe_fld (pv 0) rfl)) (by with_unfolding_all rfl))
      (pss_one (ps_raise rfl (takes_of rfl rfl rfl rfl) (pmk_oex Z_NoLane.xc.oex Z_NoLane.all.1 Z_NoLane.all.2.1 Z_NoLane.all.2.2.1 (hr.mono (by decide)) Z_NoLane.all.2.2.2 .nil passes_no rfl T.g_NoLane.1 (pa_cons (pv 1) pa_nil))))
      pss_nil)
      (pss_one (ps_expr (pe_dpop1 (pe_fld (pv 0) rfl) (pv 1) ⟨rfl, rfl, rfl, rfl⟩)))), fun ws ka out B F0 Q hC hR hX => ?_⟩)
  obtain ⟨s, b, rfl, a, o, d, ps, es, l, rfl, rfl, rfl, hn, rfl⟩ := hC
  have fe : EvD K (tFld K (tVar 0) "ends_by_lane") [some (.val (.adr a)), some (.val (.str l))] (NetC K a o d ps es) (.val (.adr d)) (NetC K a o d ps es) := ev_fld (ev_var rfl) (.c 0 rfl) T.cl_Net T.na_Net_ends_by_lane rfl
  refine q_when (et_B ((ev_dni (ev_var rfl) fe (.ce 2 rfl)).to (by rw [enD_in]))) (fun hb => ?_) (fun hb => ?_)
  · rw [Bool.not_eq_true', decide_eq_false_iff_not] at hb
    rw [if_neg hb] at hX
    exact g_raise1 hX (ea1 (ev_var rfl)) Z_NoLane.xc.oex Z_NoLane.no ⟨rfl, rfl⟩
  · rw [Bool.not_eq_false', decide_eq_true_eq] at hb
    rw [if_pos hb] at hR
    obtain ⟨r, hr, rfl⟩ := List.mem_map.mp hb
    refine g_dpop (j := 2) (d := lnD r) fe ⟨2, _, rfl⟩ (ev_var rfl) rfl (enD_getm hn hr) (g_end hR ⟨rfl, ?_⟩)
    rw [enD_drop1]
    rfl
end
/-- where a scene's things lie -/
structure ScA where
  s : Addr
  n : Addr
  o : Addr
  e : Addr
  l : Addr
  h : Addr
  d : Addr
/-- what a scene holds: posts, lanes, wanted lanes, deeds, nets and wanted lanes ahead of each, patterns -/
structure Sc where
  ps : List Str
  es : List Ln
  gs : List Str
  dl : List D
  al : List (List Str × List Ln × List Str)
  pt : List (Key × D)
def aheD (K : PySem.W.Frag) (x : List Str × List Ln × List Str) : D := .tup [NetD K x.1 x.2.1, .tup (stD x.2.2)]
def ScR (K : PySem.W.Frag) (A : ScA) (S : Sc) : Cells := [(A.s, .ins (He.ga K "Scene") [("base", .adr A.n), ("goal", .tup (stD S.gs)), ("deeds", .adr A.l), ("ahead", .adr A.h), ("pattern_by_name", .adr A.d)]), (A.l, .lst S.dl), (A.h, .lst (S.al.map (aheD K))), (A.d, .dic S.pt)]
def ScC (K : PySem.W.Frag) (A : ScA) (S : Sc) : Cells := NetC K A.n A.o A.e S.ps S.es ++ ScR K A S
def ScD (K : PySem.W.Frag) (S : Sc) : D := .ins (He.ga K "Scene") [("base", NetD K S.ps S.es), ("goal", .tup (stD S.gs)), ("deeds", .lst S.dl), ("ahead", .lst (S.al.map (aheD K))), ("pattern_by_name", .dic S.pt)]
def WaC (K : PySem.W.Frag) (a : Addr) (A : ScA) (S : Sc) : Cells := ScC K A S ++ [(a, .ins (He.ga K "Watch") [("scene", .adr A.s)])]
def WaD (K : PySem.W.Frag) (S : Sc) : D := .ins (He.ga K "Watch") [("scene", ScD K S)]
theorem sc_kd {K : PySem.W.Frag} {A : ScA} {S : Sc} : ∀ p ∈ ScC K A S, ndK p.2 = true := fun p hp => by
  rcases List.mem_append.mp hp with hp | hp
  · exact net_kd p hp
  · unfold ScR at hp
    rcases List.mem_cons.mp hp with rfl | hp
    · rfl
    rcases List.mem_cons.mp hp with rfl | hp
    · rfl
    rcases List.mem_cons.mp hp with rfl | hp
    · rfl
    rw [List.mem_singleton.mp hp]
    rfl
theorem wa_kd {K : PySem.W.Frag} {a : Addr} {A : ScA} {S : Sc} : ∀ p ∈ WaC K a A S, ndK p.2 = true := fun p hp => by
  rcases List.mem_append.mp hp with hp | hp
  · exact sc_kd p hp
  · rw [List.mem_singleton.mp hp]
    rfl
theorem frz_sc {K : PySem.W.Frag} {kt : Cells} {A : ScA} {S : Sc} (h : ∀ p ∈ ScC K A S, p ∈ kt) : FrzD K kt A.s (ScD K S) := by
  have hr : ∀ p ∈ ScR K A S, p ∈ kt := fun p hp => h p (List.mem_append_right _ hp)
  have h0 := hr _ List.mem_cons_self
  have h1 := hr _ (List.mem_cons_of_mem _ List.mem_cons_self)
  have h2 := hr _ (List.mem_cons_of_mem _ (List.mem_cons_of_mem _ List.mem_cons_self))
  have h3 := hr _ (List.mem_cons_of_mem _ (List.mem_cons_of_mem _ (List.mem_cons_of_mem _ List.mem_cons_self)))
  exact frz_i h0 ⟨_, _, rfl, .a (frz_net fun p hp => h p (List.mem_append_left _ hp)), _, _, rfl, .s _, _, _, rfl, .a (frz_l h1 (FzL.same _)), _, _, rfl, .a (frz_l h2 (FzL.same _)), _, _, rfl, .a (frz_d h3), rfl⟩
theorem frz_wa {K : PySem.W.Frag} {kt : Cells} {a : Addr} {A : ScA} {S : Sc} (h : ∀ p ∈ WaC K a A S, p ∈ kt) : FrzD K kt a (WaD K S) :=
  frz_i (h _ (List.mem_append_right _ List.mem_cons_self)) ⟨_, _, rfl, .a (frz_sc fun p hp => h p (List.mem_append_left _ hp)), rfl⟩
def ct_Scene___init (K : PySem.W.Frag) : Ct := Ct3 fun s b c ka out => ∃ a n gs, s = .val (.adr a) ∧ b = .val (.adr n) ∧ c = .val (.tup (stD gs)) ∧ ka = [(a, .ins (He.ga K "Scene") [])] ∧ out = fun o' k => ∃ l h d, o' = .ret .non ∧ k = [(a, .ins (He.ga K "Scene") [("base", .adr n), ("goal", .tup (stD gs)), ("deeds", .adr l), ("ahead", .adr h), ("pattern_by_name", .adr d)]), (l, .lst []), (h, .lst []), (d, .dic [])]
section
variable {P : Program} {w : World} {K : PySem.W.Frag} {mg : Str → Option Value} {base : Heap}
theorem ok_Scene___init (T : Tx K mg) : Fn P w K mg base 4 (He.ma K (He.ga K "Scene") "__init__") ["self", "base", "goal"] (ct_Scene___init K) := by
  obtain ⟨fd, F⟩ := T.d_Scene___init
  refine fn_ok F sc_Scene___init (fun _ _ _ _ _ _ us hl => match us, hl with | [_, _, _], _ => rfl) ct3_len (fun cdv A outer s H E hr => ⟨_, (pss_cons (ps_fld (pv 0) (pv 1) rfl)
      (pss_cons (ps_fld (pv 0) (pv 2) rfl)
      (pss_cons (ps_fld (pv 0) (pe_lst pa_nil) rfl)
      (pss_cons (ps_fld (pv 0) (pe_lst pa_nil) rfl)
      (pss_one (ps_fld (pv 0) pe_dnewK rfl)))))), fun ws ka out B F0 Q hC hR hX => ?_⟩)
  obtain ⟨s, b, c, rfl, a, n, gs, rfl, rfl, rfl, rfl, rfl⟩ := hC
  refine q_fld (j := 0) (fs := []) (ev_var rfl) (ev_var rfl) rfl T.cl_Scene T.na_Scene_base (show 0 < 900 by decide) ?_
  refine q_fld (j := 0) (fs := [("base", .adr n)]) (ev_var rfl) (ev_var rfl) rfl T.cl_Scene T.na_Scene_goal (show 1 < 900 by decide) ?_
  refine q_fldR (C := He.ga K "Scene") (a := a) (evn_lst (ds := []) ea_nil (by decide)).toR T.cl_Scene T.na_Scene_deeds (fun w k1 ⟨l, h1, h3⟩ => ⟨.adr l, k1, 0, [("base", .adr n), ("goal", .tup (stD gs))], h1, ev_var rfl, by rw [h3]; rfl, (show 2 < 900 by decide), ?_⟩)
  subst h3
  refine q_fldR (C := He.ga K "Scene") (a := a) (evn_lst (ds := []) ea_nil (by decide)).toR T.cl_Scene T.na_Scene_ahead (fun w2 k2 ⟨h, h2, h3⟩ => ⟨.adr h, k2, 0, [("base", .adr n), ("goal", .tup (stD gs)), ("deeds", .adr l)], h2, ev_var rfl, by rw [h3]; rfl, (show 3 < 900 by decide), ?_⟩)
  subst h3
  refine g_fldR (C := He.ga K "Scene") (a := a) evn_dnew.toR T.cl_Scene T.na_Scene_pattern_by_name (fun w3 k3 ⟨d, h4, h3⟩ => ⟨.adr d, k3, 0, [("base", .adr n), ("goal", .tup (stD gs)), ("deeds", .adr l), ("ahead", .adr h)], h4, ev_var rfl, by rw [h3]; rfl, (show 4 < 900 by decide), ?_⟩)
  subst h3
  exact g_end hR ⟨l, h, d, rfl, rfl⟩
end
theorem perm_same {α : Type} (N M : List α) (c s l h : α) : ([c, s] ++ N ++ M ++ [l, h]).Perm (N ++ [s, l, h, c] ++ M) := by
  have h1 : ([c, s] ++ N ++ M ++ [l, h]).Perm ([c, s] ++ N ++ [l, h] ++ M) := by
    rw [List.append_assoc, List.append_assoc ([c, s] ++ N)]
    exact List.Perm.append_left _ List.perm_append_comm
  refine h1.trans (List.Perm.append_right M ?_)
  have h2 : ([c, s] ++ N ++ [l, h]).Perm (N ++ [c, s] ++ [l, h]) := List.Perm.append_right _ List.perm_append_comm
  refine h2.trans ?_
  rw [List.append_assoc]
  exact List.Perm.append_left _ (List.perm_append_comm (l₁ := [c]) (l₂ := [s, l, h]))
def ct_same_scene (K : PySem.W.Frag) : Ct := Ct1 fun s ka out => ∃ A S, s = .val (.adr A.s) ∧ S.ps.length ≤ 1000 ∧ S.es.length ≤ 1000 ∧ (lnN S.es).Nodup ∧ S.pt = [] ∧ ka = ScC K A S ∧ out = fun o k => ∃ A', o = .ret (.adr A'.s) ∧ k = ScC K A' S ++ ScC K A S
section
variable {P : Program} {w : World} {K : PySem.W.Frag} {mg : Str → Option Value} {base : Heap}
theorem ok_same_scene (T : Tx K mg) (F_Net_copy : Fn P w K mg base 6 (He.ma K (He.ga K "Net") "copy") ["self"] (ct_Net_copy K)) (F_Scene___init : Fn P w K mg base 4 (He.ma K (He.ga K "Scene") "__init__") ["self", "base", "goal"] (ct_Scene___init K)) : Fn P w K mg base 8 (He.ga K "same_scene") ["scene"] (ct_same_scene K) := by
  obtain ⟨fd, F⟩ := T.d_same_scene
  refine fn_ok F sc_same_scene (fun _ _ _ _ _ _ us hl => match us, hl with | [_], _ => rfl) ct1_len (fun cdv A outer s H E hr => ⟨_, (pss_cons (ps_set (i := 1) sc_same_scene.nd rfl (by first | exact Or.inl rfl | exact Or.inr rfl) (pe_make T.mk_Scene (F_Scene___init.up (by decide)).ok hr rfl T.g_Scene.1 (F_Scene___init.up (by decide)).bn .nil (pass_own rfl rfl rfl rfl) (pa_cons (pe_meth0 (pe_fld (pv 0) rfl) T.cl_Net T.me_Net_copy (F_Net_copy.up (by decide)).ok hr (F_Net_copy.up (by decide)).bn .nil (pass_own rfl rfl rfl rfl)) (pa_cons (pe_fld (pv 0) rfl) pa_nil))))
      (pss_cons (ps_fld (pv 1) (pe_callTy call_lstU rfl T.n_list (by decide +kernel) (pa_cons (pe_fld (pv 0) rfl) pa_nil)) rfl)
      (pss_cons (ps_fld (pv 1) (pe_callTy call_lstU rfl T.n_list (by decide +kernel) (pa_cons (pe_fld (pv 0) rfl) pa_nil)) rfl)
      (pss_cons (ps_fld (pv 1) (pe_lkE (pe_dc (tk := (tVar 2)) (tv := (tDGet (tFld K (tVar 0) "pattern_by_name") (tVar 2))) (tt := tYes) (own := [("name", 2)]) rfl sc_same_scene.nd (pi_keys (pe_fld (pv 0) rfl)) (blk_ok ["scene", "other", "name"] (defScope s_same_scene) rfl rfl (by decide +kernel)) (fun _ _ _ _ _ => (pg_name (i := 2) sc_same_scene.nd rfl (by first | exact Or.inl rfl | exact Or.inr rfl))) (fun _ _ _ _ _ => pts_nil) (fun _ _ _ _ _ => (pv 2)) (fun _ _ _ _ _ => (pe_dget (hu1 hr) (pe_fld (pv 0) rfl) (pv 2) fun _ _ => rfl)))) rfl)
      (pss_one (ps_ret (pv 1))))))), fun ws ka out B F0 Q hC hR hX => ?_⟩)
  obtain ⟨s, rfl, A, S, rfl, hpl, hel, hn, hpt, rfl, rfl⟩ := hC
  have fr : ∀ {ro : Ro}, ro[0]? = some (some (.val (.adr A.s))) → RoT K (ScC K A S) ro (ro.set 0 (some (.val (ScD K S)))) := fun h => RoT.refl.set h (frz_sc fun _ z => z)
  have fgo : ∀ {ro : Ro} {k : Cells} {a o d2 : Addr}, ro[0]? = some (some (.val (.adr A.s))) → k = NetC K a o d2 S.ps S.es ++ ScC K A S → EvD K (tFld K (tVar 0) "goal") ro k (.val (.tup (stD S.gs))) k := fun h e => by
    subst e
    exact ev_fld (ev_var h) (.c 6 rfl) T.cl_Scene T.na_Scene_goal rfl
  refine q_asgR (evr_makeAR (P2 := fun w k => ∃ A' : ScA, w = .val (.adr A'.s) ∧ k = [(A'.s, .ins (He.ga K "Scene") [("base", .adr A'.n), ("goal", .tup (stD S.gs)), ("deeds", .adr A'.l), ("ahead", .adr A'.h), ("pattern_by_name", .adr A'.d)]), (A'.l, .lst []), (A'.h, .lst []), (A'.d, .dic [])] ++ (NetC K A'.n A'.o A'.e S.ps S.es ++ ScC K A S)) (ear_cons (P := fun w k => ∃ n o d, w = .val (.adr n) ∧ k = NetC K n o d S.ps S.es ++ ScC K A S) (R := fun w ws' k => ∃ n o d, w = .val (.adr n) ∧ ws' = [.val (.tup (stD S.gs))] ∧ k = NetC K n o d S.ps S.es ++ ScC K A S) (EvR.imp (EvR.thaw (k1 := []) (kt := ScC K A S) (evr_meth (k1 := []) (k2 := []) [] (ev_fld (ev_var rfl) .v T.cl_Scene T.na_Scene_base rfl) .v rfl ea_nil ⟨_, rfl, S.ps, S.es, rfl, Nat.le_trans hpl (by decide), Nat.le_trans hel (by decide), hn, rfl, rfl⟩ (fun o k ⟨n, o2, d, e, _⟩ => ⟨_, e⟩)) sc_kd (fr rfl) ?th) fun w k h => ?im) (fun w k ⟨n, o, d2, e1, e2⟩ => EvAR.imp (ear_cD (fgo rfl e2) ear_nil) fun ws k' ⟨ws', h1, h2, h3⟩ => ⟨n, o, d2, e1, by rw [h1, h2], by rw [h3, e2]⟩)) (fun ws' k h a' => ?mk)) fun w k ⟨A', e1, e2⟩ => ?_
  case th =>
    rintro w k ⟨d', k3, ⟨a, o, d2, e1, e2⟩, e3, e4⟩
    cases e1
    refine ⟨⟨_, e3, rfl⟩, fun q hq => ?_⟩
    rw [e4, e2, List.append_nil] at hq
    exact net_ndI q hq
  case im =>
    obtain ⟨k0, ⟨d', k3, ⟨a, o, d2, e1, e2⟩, e3, e4⟩, e5⟩ := h
    cases e1
    exact ⟨a, o, d2, e3, by rw [e5, e4, e2, List.append_nil]⟩
  case mk =>
    obtain ⟨w, ws'', h1, n, o, d2, h2, h3, h4⟩ := h
    subst h1 h2 h3 h4
    exact ⟨[], _, _, List.Perm.refl _, ⟨_, _, _, rfl, a', n, S.gs, rfl, rfl, rfl, rfl, rfl⟩, fun o' k' ⟨l, h, d, e1, e2⟩ => ⟨e1, ⟨a', n, o, d2, l, h, d⟩, rfl, by rw [e2]; rfl⟩⟩
  subst e1 e2
  refine q_fldR (C := He.ga K "Scene") (a := A'.s) (evn_cb (ea1 (ev_fld (ev_var rfl) (.c 10 rfl) T.cl_Scene T.na_Scene_deeds rfl)) (rcn_lst (ds := S.dl) (.ce 11 rfl) (.inl rfl))).toR T.cl_Scene T.na_Scene_deeds (fun w k1 ⟨l, h1, h2⟩ => ⟨.adr l, k1, 0, [("base", .adr A'.n), ("goal", .tup (stD S.gs)), ("deeds", .adr A'.l), ("ahead", .adr A'.h), ("pattern_by_name", .adr A'.d)], h1, ev_var rfl, by rw [h2]; rfl, (show 5 < 900 by decide), ?_⟩)
  subst h2
  refine q_fldR (C := He.ga K "Scene") (a := A'.s) (evn_cb (ea1 (ev_fld (ev_var rfl) (.c 10 rfl) T.cl_Scene T.na_Scene_ahead rfl)) (rcn_lst (ds := S.al.map (aheD K)) (.ce 12 rfl) (.inl rfl))).toR T.cl_Scene T.na_Scene_ahead (fun w2 k2 ⟨h, h1, h2⟩ => ⟨.adr h, k2, 0, [("base", .adr A'.n), ("goal", .tup (stD S.gs)), ("deeds", .adr l), ("ahead", .adr A'.h), ("pattern_by_name", .adr A'.d)], h1, ev_var rfl, by rw [h2]; rfl, (show 5 < 900 by decide), ?_⟩)
  subst h2
  have all : ∀ p ∈ ScC K A S, p ∈ ([(A'.s, Nd.ins (He.ga K "Scene") [("base", .adr A'.n), ("goal", .tup (stD S.gs)), ("deeds", .adr l), ("ahead", .adr h), ("pattern_by_name", .adr A'.d)]), (A'.l, .lst []), (A'.h, .lst []), (A'.d, .dic [])] ++ (NetC K A'.n A'.o A'.e S.ps S.es ++ ScC K A S) ++ [(l, .lst S.dl)] ++ [(h, .lst (S.al.map (aheD K)))] : Cells) := fun p hp => List.mem_append_left _ (List.mem_append_left _ (List.mem_append_right _ (List.mem_append_right _ hp)))
  have hkd : ∀ p ∈ ([(A'.s, Nd.ins (He.ga K "Scene") [("base", .adr A'.n), ("goal", .tup (stD S.gs)), ("deeds", .adr l), ("ahead", .adr h), ("pattern_by_name", .adr A'.d)]), (A'.l, .lst []), (A'.h, .lst []), (A'.d, .dic [])] ++ (NetC K A'.n A'.o A'.e S.ps S.es ++ ScC K A S) ++ [(l, .lst S.dl)] ++ [(h, .lst (S.al.map (aheD K)))] : Cells), ndK p.2 = true := fun p hp => by
    rcases List.mem_append.mp hp with hp | hp
    · rcases List.mem_append.mp hp with hp | hp
      · rcases List.mem_append.mp hp with hp | hp
        · rcases List.mem_cons.mp hp with rfl | hp
          · rfl
          rcases List.mem_cons.mp hp with rfl | hp
          · rfl
          rcases List.mem_cons.mp hp with rfl | hp
          · rfl
          rw [List.mem_singleton.mp hp]
          rfl
        · rcases List.mem_append.mp hp with hp | hp
          · exact net_kd p hp
          · exact sc_kd p hp
      · rw [List.mem_singleton.mp hp]; rfl
    · rw [List.mem_singleton.mp hp]; rfl
  refine Gp.perm (k1 := [(A'.s, Nd.ins (He.ga K "Scene") [("base", .adr A'.n), ("goal", .tup (stD S.gs)), ("deeds", .adr l), ("ahead", .adr h), ("pattern_by_name", .adr A'.d)]), (A'.l, .lst []), (A'.h, .lst []), (A'.d, .dic [])] ++ (NetC K A'.n A'.o A'.e S.ps S.es ++ ScC K A S) ++ [(l, .lst S.dl)] ++ [(h, .lst (S.al.map (aheD K)))]) ?_ (List.Perm.refl _)
  refine q_fldR (P := fun w k => ∃ c, w = .val (.adr c) ∧ k = [(c, Nd.dic [])] ++ ([(A'.s, Nd.ins (He.ga K "Scene") [("base", .adr A'.n), ("goal", .tup (stD S.gs)), ("deeds", .adr l), ("ahead", .adr h), ("pattern_by_name", .adr A'.d)]), (A'.l, .lst []), (A'.h, .lst []), (A'.d, .dic [])] ++ (NetC K A'.n A'.o A'.e S.ps S.es ++ ScC K A S) ++ [(l, .lst S.dl)] ++ [(h, .lst (S.al.map (aheD K)))])) (C := He.ga K "Scene") (a := A'.s) ?ev T.cl_Scene T.na_Scene_pattern_by_name (fun w3 k3 h3 => ?_)
  case ev =>
    refine EvR.imp (P := fun w k => ∃ k0, (∃ c n k1, w = W.val (.adr c) ∧ (∃ acc : List (Key × D), n = Nd.dic acc ∧ acc = [] ∧ k1 = []) ∧ k0 = k1 ++ [(c, n)]) ∧ k = k0 ++ ([(A'.s, Nd.ins (He.ga K "Scene") [("base", .adr A'.n), ("goal", .tup (stD S.gs)), ("deeds", .adr l), ("ahead", .adr h), ("pattern_by_name", .adr A'.d)]), (A'.l, .lst []), (A'.h, .lst []), (A'.d, .dic [])] ++ (NetC K A'.n A'.o A'.e S.ps S.es ++ ScC K A S) ++ [(l, .lst S.dl)] ++ [(h, .lst (S.al.map (aheD K)))])) (EvR.thaw (k1 := []) (kt := [(A'.s, Nd.ins (He.ga K "Scene") [("base", .adr A'.n), ("goal", .tup (stD S.gs)), ("deeds", .adr l), ("ahead", .adr h), ("pattern_by_name", .adr A'.d)]), (A'.l, .lst []), (A'.h, .lst []), (A'.d, .dic [])] ++ (NetC K A'.n A'.o A'.e S.ps S.es ++ ScC K A S) ++ [(l, .lst S.dl)] ++ [(h, .lst (S.al.map (aheD K)))]) (ro' := [some (.val (ScD K S)), some (.val (.adr A'.s)), none]) ?h hkd (RoT.refl.set (i := 0) rfl (frz_sc all)) ?th2) ?im2
    case h =>
      refine EvNR.toR (R := fun n k => ∃ acc : List (Key × D), n = Nd.dic acc ∧ acc = [] ∧ k = []) ?_
      exact evr_dcK (ds := S.pt) (evp_fld (evp_var rfl) T.cl_Scene T.na_Scene_pattern_by_name rfl) (by decide) (by rw [hpt]; decide) (fun i acc k => acc = [] ∧ k = []) ⟨rfl, rfl⟩ (fun i kv acc k hk _ => by rw [hpt] at hk; cases hk)
    case th2 =>
      rintro w k ⟨c, n, k0, e1, ⟨acc, rfl, rfl, rfl⟩, rfl⟩
      refine ⟨⟨_, e1, rfl⟩, fun q hq => ?_⟩
      rw [List.mem_singleton.mp hq]
      rfl
    case im2 =>
      rintro w k ⟨k4, ⟨c, n, k0, e1, ⟨acc, rfl, rfl, rfl⟩, rfl⟩, rfl⟩
      exact ⟨c, e1, rfl⟩
  obtain ⟨c, e1, rfl⟩ := h3
  refine ⟨.adr c, _, 1, [("base", .adr A'.n), ("goal", .tup (stD S.gs)), ("deeds", .adr l), ("ahead", .adr h), ("pattern_by_name", .adr A'.d)], e1, ev_var rfl, rfl, (show 5 < 900 by decide), ?_⟩
  refine Gp.less (k1 := [(c, Nd.dic []), (A'.s, Nd.ins (He.ga K "Scene") [("base", .adr A'.n), ("goal", .tup (stD S.gs)), ("deeds", .adr l), ("ahead", .adr h), ("pattern_by_name", .adr c)])] ++ NetC K A'.n A'.o A'.e S.ps S.es ++ ScC K A S ++ [(l, .lst S.dl), (h, .lst (S.al.map (aheD K)))]) ?_ (.cons₂ _ (.cons₂ _ (.cons _ (.cons _ (.cons _ (List.Sublist.refl _))))))
  refine Gp.perm (k1 := ScC K ⟨A'.s, A'.n, A'.o, A'.e, l, h, c⟩ S ++ ScC K A S) (g_ret hR (ev_var rfl) ⟨⟨A'.s, A'.n, A'.o, A'.e, l, h, c⟩, rfl, rfl⟩) ?_
  have pe := (perm_same (NetC K A'.n A'.o A'.e S.ps S.es) (ScC K A S) (c, Nd.dic []) (A'.s, Nd.ins (He.ga K "Scene") [("base", .adr A'.n), ("goal", .tup (stD S.gs)), ("deeds", .adr l), ("ahead", .adr h), ("pattern_by_name", .adr c)]) (l, .lst S.dl) (h, .lst (S.al.map (aheD K)))).symm
  have e : ScC K ⟨A'.s, A'.n, A'.o, A'.e, l, h, c⟩ S = NetC K A'.n A'.o A'.e S.ps S.es ++ [(A'.s, Nd.ins (He.ga K "Scene") [("base", .adr A'.n), ("goal", .tup (stD S.gs)), ("deeds", .adr l), ("ahead", .adr h), ("pattern_by_name", .adr c)]), (l, .lst S.dl), (h, .lst (S.al.map (aheD K))), (c, Nd.dic [])] := by
    unfold ScC ScR
    rw [hpt]
  rw [e]
  exact pe
end
/-- the wanted lanes in the order of the net -/
def goalL (es : List Ln) (ws : List Str) : List Str := (lnN es).filter fun l => decide (l ∈ ws)
/-- how in_net_order ends -/
def inoO (K : PySem.W.Frag) (es : List Ln) (ws : List Str) : Oc := match ws.find? (fun x => !decide (x ∈ lnN es)) with
  | some x => Xt (He.ga K "NoLane") [("name", .str x)] []
  | none => Rt (.tup (stD (goalL es ws))) []
def ct_in_net_order (K : PySem.W.Frag) : Ct := Ct2 fun a b ka out => ∃ ps es ws t, a = .val (NetD K ps es) ∧ Lk [] b t (stD ws) false ∧ es.length ≤ 50000 ∧ ka = [] ∧ out = inoO K es ws
section
variable {P : Program} {w : World} {K : PySem.W.Frag} {mg : Str → Option Value} {base : Heap}
theorem ok_in_net_order (T : Tx K mg) (F_first_missing : Fn P w K mg base 4 (He.ga K "first_missing") ["names", "known"] (ct_first_missing K)) (F_Net_lanes : Fn P w K mg base 4 (pga K (He.ga K "Net") "lanes") ["self"] (ct_Net_lanes K)) (Z_NoLane : Xn P w K mg base (He.ga K "NoLane") "name") : Fn P w K mg base 6 (He.ga K "in_net_order") ["net", "lanes"] (ct_in_net_order K) := by
  obtain ⟨fd, F⟩ := T.d_in_net_order
  refine fn_ok F sc_in_net_order (fun _ _ _ _ _ _ us hl => match us, hl with | [_, _], _ => rfl) ct2_len (fun cdv A outer s H E hr => ⟨_, (pss_cons (ps_set (i := 2) sc_in_net_order.nd rfl (by first | exact Or.inl rfl | exact Or.inr rfl) (pe_call (F_first_missing.up (by decide)).ok hr rfl T.g_first_missing.1 T.g_first_missing.2 (F_first_missing.up (by decide)).bn .nil (pass_own rfl rfl rfl rfl) (pa_cons (pv 1) (pa_cons (pe_fld (pv 0) rfl) pa_nil))))
      (pss_cons (ps_if (pt_cmpR op_notN1 (pv 2) pe_non (nomark _))
      (pss_one (ps_raise rfl (takes_of rfl rfl rfl rfl) (pmk_oex Z_NoLane.xc.oex Z_NoLane.all.1 Z_NoLane.all.2.1 Z_NoLane.all.2.2.1 (hr.mono (by decide)) Z_NoLane.all.2.2.2 .nil passes_no rfl T.g_NoLane.1 (pa_cons (pv 2) pa_nil))))
      pss_nil)
      (pss_one (ps_ret (pe_callTy call_tupU rfl T.n_tuple (by decide +kernel) (pa_cons (pe_lc (te := (tVar 3)) (tt := (tTest (tOp (rInU K) (tVar 3) (tVar 1)))) (own := [("lane", 3)]) rfl sc_in_net_order.nd (pi_seq (pe_prop (pv 0) T.cl_Net T.pr_Net_lanes (F_Net_lanes.up (by decide)).ok hr (F_Net_lanes.up (by decide)).bn .nil passes_no rfl)) (blk_ok ["net", "lanes", "missing", "lane"] (defScope s_in_net_order) rfl rfl (by decide +kernel)) (fun _ _ _ _ _ => (pg_name (i := 3) sc_in_net_order.nd rfl (by first | exact Or.inl rfl | exact Or.inr rfl))) (fun _ _ _ _ _ => (pts_one (pt_cmpR op_inU (pv 3) (pv 1) (by with_unfolding_all rfl)))) (fun _ _ _ _ _ => (pv 3))) pa_nil)))))), fun ws ka out B F0 Q hC hR hX => ?_⟩)
  obtain ⟨a, b, rfl, ps, es, ws, t, rfl, lw, hel, rfl, rfl⟩ := hC
  refine q_asg (w := .val (fmD ws (lnN es))) (ev_callP (ea2 (ev_var rfl) (ev_fld (ev_var rfl) .v T.cl_Net T.na_Net_ends_by_lane rfl)) ⟨_, _, rfl, ws, lnN es, t, false, lw, .dc .v (fun s => enD_in es s), rfl⟩) ?_
  unfold inoO at hR hX
  cases hf : ws.find? (fun x => !decide (x ∈ lnN es)) with
  | some x =>
    rw [hf] at hX
    have e1 : fmD ws (lnN es) = .str x := by unfold fmD; rw [hf]
    rw [e1]
    exact q_when ((et_test (ev_notN (d := .str x) (ev_var rfl) (.inl rfl))).to (b := true) rfl) (fun _ => g_raise1 hX (ea1 (ev_var rfl)) Z_NoLane.xc.oex Z_NoLane.no ⟨rfl, rfl⟩) (fun z => by cases z)
  | none =>
  rw [hf] at hR
  have e1 : fmD ws (lnN es) = .non := by unfold fmD; rw [hf]
  rw [e1]
  refine q_when ((et_test (ev_notN (d := .non) (ev_var rfl) (.inl rfl))).to (b := false) rfl) (fun z => by cases z) (fun _ => ?_)
  exact g_ret hR (ev_cb (ea1 ((evn_filt (xs := lnN es) (g := fun s => W.val (.str s)) (f := fun s => D.str s) (p := fun l => decide (l ∈ ws)) (ei_strsL (ev_prop (k1 := []) [] (ev_var rfl) .v ⟨_, rfl, ps, es, rfl, hel, rfl, rfl⟩ fun _ _ z => z) .vt) (by decide) (by rw [lnN_len]; omega) ⟨trivial, fun _ => trivial⟩ (fun l hl => et_test (ev_inL (ev_var rfl) (ev_var rfl) lw)) (fun l hl _ => ev_var rfl)).lst)) (rc_tupL .vl (sqf_stD _ _))) ⟨rfl, rfl⟩
end
def isSD : D → Bool
  | .str _ => true
  | _ => false
/-- the form of a deed -/
def deedF : D → Bool
  | .tup ds => ds.all isSD && (match ds with
    | [.str x, _, _, _] => decide (x ∈ (["put"] : List Str))
    | [.str x, _] => decide (x ∈ (["take", "want", "drop"] : List Str))
    | _ => false)
  | _ => false
/-- what is passed as a deed -/
def DeedD (d : D) : Prop := d = .non ∨ (∃ s, d = .str s) ∨ (∃ ds, d = .lst ds ∧ ds.length ≤ 1000) ∨ ∃ ds, d = .tup ds ∧ ds.length ≤ 1000 ∧ ∀ x ∈ ds, x = .non ∨ ∃ s, x = .str s
theorem all_strs : ∀ {ds : List D}, ds.all isSD = true → ∃ ss, ds = stD ss
  | [], _ => ⟨[], rfl⟩
  | .str s :: t, h => by
    rw [List.all_cons, Bool.and_eq_true] at h
    obtain ⟨ss, e⟩ := all_strs h.2
    exact ⟨s :: ss, by rw [e]; rfl⟩
def ct_check_deed (K : PySem.W.Frag) : Ct := Ct2 fun a b ka out => ∃ (p : Int) (d : D), a = .val (.int p) ∧ b = .val d ∧ DeedD d ∧ ka = [] ∧ out = if deedF d then Rt .non [] else Xt (He.ga K "BadDeed") [("place", .int p)] []
section
variable {P : Program} {w : World} {K : PySem.W.Frag} {mg : Str → Option Value} {base : Heap}
theorem ok_check_deed (T : Tx K mg) (Z_BadDeed : Xn P w K mg base (He.ga K "BadDeed") "place") : Fn P w K mg base 4 (He.ga K "check_deed") ["place", "deed"] (ct_check_deed K) := by
  obtain ⟨fd, F⟩ := T.d_check_deed
  refine fn_ok F sc_check_deed (fun _ _ _ _ _ _ us hl => match us, hl with | [_, _], _ => rfl) ct2_len (fun cdv A outer s H E hr => ⟨_, (pss_cons (ps_if (PW.pt (pw_or (pt_not (pt_val (pe_callB call_isi rfl T.n_isinstance (by decide +kernel) (pa_cons (pv 1) (pa_cons (pe_bltn (v := .ty "tuple") rfl T.n_tuple (by decide +kernel) rfl) pa_nil))))) (pw_or1 (pt_not (pt_val (pe_callB (cr_all rfl) rfl T.n_all (by decide +kernel) (pa_cons (pe_lc (te := (tCB (rIsi K) (tCons (tVar 2) (tCons (tC (.ty "str")) tNil)))) (tt := tYes) (own := [("word", 2)]) rfl sc_check_deed.nd (pi_seq (pv 1)) (blk_ok ["place", "deed", "word"] (defScope s_check_deed) rfl rfl (by decide +kernel)) (fun _ _ _ _ _ => (pg_name (i := 2) sc_check_deed.nd rfl (by first | exact Or.inl rfl | exact Or.inr rfl))) (fun _ _ _ _ _ => pts_nil) (fun _ _ _ _ _ => (pe_callB call_isi rfl T.n_isinstance (by decide +kernel) (pa_cons (pv 2) (pa_cons (pe_bltn (v := .ty "str") rfl T.n_str (by decide +kernel) rfl) pa_nil))))) pa_nil)))))))
      (pss_one (ps_raise rfl (takes_of rfl rfl rfl rfl) (pmk_oex Z_BadDeed.xc.oex Z_BadDeed.all.1 Z_BadDeed.all.2.1 Z_BadDeed.all.2.2.1 (hr.mono (by decide)) Z_BadDeed.all.2.2.2 .nil passes_no rfl T.g_BadDeed.1 (pa_cons (pv 0) pa_nil))))
      pss_nil)
      (pss_cons (ps_if (PW.pt (pw_and (pt_cmpR (op_neP (by have := (hr).units; exact this)) (pe_callB call_lenU rfl T.n_len (by decide +kernel) (pa_cons (pv 1) pa_nil)) pe_int (nomark _)) (pw_and1 (pt_cmpR (op_neP (by have := (hr).units; exact this)) (pe_callB call_lenU rfl T.n_len (by decide +kernel) (pa_cons (pv 1) pa_nil)) pe_int (nomark _)))))
      (pss_one (ps_raise rfl (takes_of rfl rfl rfl rfl) (pmk_oex Z_BadDeed.xc.oex Z_BadDeed.all.1 Z_BadDeed.all.2.1 Z_BadDeed.all.2.2.1 (hr.mono (by decide)) Z_BadDeed.all.2.2.2 .nil passes_no rfl T.g_BadDeed.1 (pa_cons (pv 0) pa_nil))))
      pss_nil)
      (pss_one (ps_if (pt_cmpR op_niU (pe_ix ix_seq (pv 1) pe_int fun _ _ => rfl) (pe_ifExp (pt_cmpR (op_eqP (by have := (hr).units; exact this)) (pe_callB call_lenU rfl T.n_len (by decide +kernel) (pa_cons (pv 1) pa_nil)) pe_int (nomark _)) (pe_tup (pa_cons pe_str pa_nil)) (pe_tup (pa_cons pe_str (pa_cons pe_str (pa_cons pe_str pa_nil))))) (by with_unfolding_all rfl))
      (pss_one (ps_raise rfl (takes_of rfl rfl rfl rfl) (pmk_oex Z_BadDeed.xc.oex Z_BadDeed.all.1 Z_BadDeed.all.2.1 Z_BadDeed.all.2.2.1 (hr.mono (by decide)) Z_BadDeed.all.2.2.2 .nil passes_no rfl T.g_BadDeed.1 (pa_cons (pv 0) pa_nil))))
      pss_nil)))), fun ws ka out B F0 Q hC hR hX => ?_⟩)
  obtain ⟨a, b, rfl, p, d, rfl, rfl, hd, rfl, rfl⟩ := hC
  rcases hd with rfl | ⟨s, rfl⟩ | ⟨ds, rfl, hl⟩ | ⟨ds, rfl, hl, hds⟩
  · exact q_when (b := true) (et_or1 ((et_not (et_test (ev_isi (ev_var rfl) (DL.tw_of (T := "NoneType") rfl) T.kt_NoneType_tuple))).to rfl)) (fun _ => g_raise1 hX (ea1 (ev_var rfl)) Z_BadDeed.xc.oex Z_BadDeed.no ⟨rfl, rfl⟩) (fun z => by cases z)
  · exact q_when (b := true) (et_or1 ((et_not (et_test (ev_isi (ev_var rfl) (DL.tw_of (T := "str") rfl) T.kt_str_tuple))).to rfl)) (fun _ => g_raise1 hX (ea1 (ev_var rfl)) Z_BadDeed.xc.oex Z_BadDeed.no ⟨rfl, rfl⟩) (fun z => by cases z)
  · exact q_when (b := true) (et_or1 ((et_not (et_test (ev_isi (ev_var rfl) (DL.tw_of (T := "list") rfl) T.kt_list_tuple))).to rfl)) (fun _ => g_raise1 hX (ea1 (ev_var rfl)) Z_BadDeed.xc.oex Z_BadDeed.no ⟨rfl, rfl⟩) (fun z => by cases z)
  have isS : ∀ x ∈ ds, ∀ {ro : Ro}, ro[2]? = some (some (.val x)) → EvD K (tCB (rIsi K) (tCons (tVar 2) (tCons (tC (.ty "str")) tNil))) ro [] (.val (.bl (isSD x))) [] := fun x hx ro h => by
    rcases hds x hx with rfl | ⟨s, rfl⟩
    · exact ev_isi (ev_var h) (DL.tw_of (T := "NoneType") rfl) T.kt_NoneType_str
    · exact ev_isi (ev_var h) (DL.tw_of (T := "str") rfl) T.kt_str_str
  have hall : EvT K (tTest (tCB (rAll K) (tCons (tLc (iSeq K (tVar 1)) (gName 2) tYes (tCB (rIsi K) (tCons (tVar 2) (tCons (tC (.ty "str")) tNil))) [2]) tNil))) [some (.val (.int p)), some (.val (.tup ds)), none] [] (ds.all isSD) [] := by
    refine et_B ((ev_cb (ea1 (evn_map (xs := ds) (g := fun d => W.val d) (f := fun d => D.bl (isSD d)) (ei_seq (ev_var rfl) .vt) (by decide) (by omega) ⟨trivial, fun _ => trivial⟩ (fun x hx => isS x hx rfl)).lst) (rc_all (b := false) (bs := ds.map isSD) (by rw [List.map_map]; exact .vl))).to ?_)
    rw [List.all_map]
    rfl
  have isT := et_test (ev_isi (K := K) (te := tVar 1) (ro := [some (.val (.int p)), some (.val (.tup ds)), none]) (ka := []) (ev_var rfl) (DL.tw_of (T := "tuple") rfl) T.kt_tuple_tuple)
  cases ha : ds.all isSD with
  | false =>
    rw [ha] at hall
    have hf : deedF (.tup ds) = false := by
      show (ds.all isSD && _) = false
      rw [ha]; rfl
    rw [if_neg (by rw [hf]; exact Bool.false_ne_true)] at hX
    exact q_when (b := true) (et_or0 ((et_not isT).to (b := false) rfl) ((et_not hall).to rfl)) (fun _ => g_raise1 hX (ea1 (ev_var rfl)) Z_BadDeed.xc.oex Z_BadDeed.no ⟨rfl, rfl⟩) (fun z => by cases z)
  | true =>
  rw [ha] at hall
  refine q_when (b := false) (et_or0 ((et_not isT).to (b := false) rfl) ((et_not hall).to rfl)) (fun z => by cases z) (fun _ => ?_)
  obtain ⟨ss, rfl⟩ := all_strs ha
  have hf : deedF (.tup (stD ss)) = (match stD ss with
      | [.str x, _, _, _] => decide (x ∈ (["put"] : List Str))
      | [.str x, _] => decide (x ∈ (["take", "want", "drop"] : List Str))
      | _ => false) := by
    show ((stD ss).all isSD && _) = _
    rw [ha]; rfl
  have ln : ∀ {ro : Ro}, ro[1]? = some (some (.val (.tup (stD ss)))) → EvD K (tCB (rLenU K) (tCons (tVar 1) tNil)) ro [] (.val (.int ((stD ss).length : Nat))) [] := fun h => ev_len (ev_var h) .vt
  clear hall isS hds isT
  have ix0 : ∀ {ro : Ro} {a : Str} {t : List Str}, ro[1]? = some (some (.val (.tup (stD (a :: t))))) → EvD K (tOp (rIx K) (tVar 1) (tC (.int 0))) ro [] (.val (.str a)) [] := fun h => ev_ixV (ev_var h) ev_int .vt (atI_nat (j := 0) rfl)
  obtain _ | ⟨a, _ | ⟨b, _ | ⟨c, _ | ⟨e, _ | ⟨f, r⟩⟩⟩⟩⟩ := ss
  · rw [if_neg (by rw [hf]; exact Bool.false_ne_true)] at hX
    exact q_when (b := true) (et_and1 ((et_test (ev_neI (ln rfl) ev_int)).to (b := true) rfl) ((et_test (ev_neI (ln rfl) ev_int)).to (b := true) rfl)) (fun _ => g_raise1 hX (ea1 (ev_var rfl)) Z_BadDeed.xc.oex Z_BadDeed.no ⟨rfl, rfl⟩) (fun z => by cases z)
  · rw [if_neg (by rw [hf]; exact Bool.false_ne_true)] at hX
    exact q_when (b := true) (et_and1 ((et_test (ev_neI (ln rfl) ev_int)).to (b := true) rfl) ((et_test (ev_neI (ln rfl) ev_int)).to (b := true) rfl)) (fun _ => g_raise1 hX (ea1 (ev_var rfl)) Z_BadDeed.xc.oex Z_BadDeed.no ⟨rfl, rfl⟩) (fun z => by cases z)
  · refine q_when (b := false) (et_and ((et_test (ev_neI (ln rfl) ev_int)).to (b := true) rfl) (b := false) fun _ => (et_test (ev_neI (ln rfl) ev_int)).to rfl) (fun z => by cases z) (fun _ => ?_)
    refine g_if (b := !decide (a ∈ (["take", "want", "drop"] : List Str))) ((et_test (ev_niL (ss := (["take", "want", "drop"] : List Str)) (ix0 (ro := [some (.val (.int p)), some (.val (.tup (stD [a, b]))), none]) (t := [b]) rfl) ((ev_ifF ((et_test (ev_eqI (j := 4) (ln (ro := [some (.val (.int p)), some (.val (.tup (stD [a, b]))), none]) rfl) ev_int)).to (b := false) rfl) (ev_tup (ds := stD ["take", "want", "drop"]) (ea3 ev_str ev_str ev_str) (show 3 ≤ 100000 by decide)))) .vt)).to ?hb1) (fun hb => ?_) (fun hb => ?_)
    case hb1 => rfl
    · rw [if_neg (by rw [hf]; show ¬ decide (a ∈ (["take", "want", "drop"] : List Str)) = true; intro z; rw [z] at hb; cases hb)] at hX
      exact g_raise1 hX (ea1 (ev_var rfl)) Z_BadDeed.xc.oex Z_BadDeed.no ⟨rfl, rfl⟩
    · rw [if_pos (by rw [hf]; show decide (a ∈ (["take", "want", "drop"] : List Str)) = true; rw [Bool.not_eq_false'] at hb; exact hb)] at hR
      exact g_next (g_end hR ⟨rfl, rfl⟩)
  · rw [if_neg (by rw [hf]; exact Bool.false_ne_true)] at hX
    exact q_when (b := true) (et_and1 ((et_test (ev_neI (ln rfl) ev_int)).to (b := true) rfl) ((et_test (ev_neI (ln rfl) ev_int)).to (b := true) rfl)) (fun _ => g_raise1 hX (ea1 (ev_var rfl)) Z_BadDeed.xc.oex Z_BadDeed.no ⟨rfl, rfl⟩) (fun z => by cases z)
  · refine q_when (b := false) (et_and0 ((et_test (ev_neI (ln rfl) ev_int)).to (b := false) rfl)) (fun z => by cases z) (fun _ => ?_)
    refine g_if (b := !decide (a ∈ (["put"] : List Str))) ((et_test (ev_niL (ss := (["put"] : List Str)) (ix0 (ro := [some (.val (.int p)), some (.val (.tup (stD [a, b, c, e]))), none]) (t := [b, c, e]) rfl) ((ev_ifT ((et_test (ev_eqI (j := 4) (ln (ro := [some (.val (.int p)), some (.val (.tup (stD [a, b, c, e]))), none]) rfl) ev_int)).to (b := true) rfl) (ev_tup (ds := stD ["put"]) (ea1 ev_str) (show 1 ≤ 100000 by decide)))) .vt)).to ?hb2) (fun hb => ?_) (fun hb => ?_)
    case hb2 => rfl
    · rw [if_neg (by rw [hf]; show ¬ decide (a ∈ (["put"] : List Str)) = true; intro z; rw [z] at hb; cases hb)] at hX
      exact g_raise1 hX (ea1 (ev_var rfl)) Z_BadDeed.xc.oex Z_BadDeed.no ⟨rfl, rfl⟩
    · rw [if_pos (by rw [hf]; show decide (a ∈ (["put"] : List Str)) = true; rw [Bool.not_eq_false'] at hb; exact hb)] at hR
      exact g_next (g_end hR ⟨rfl, rfl⟩)
  · have gg : ∀ m : Nat, m < 5 → (!((((stD (a :: b :: c :: e :: f :: r)).length : Nat) : Int) == (m : Int))) = true := fun m hm => by
      rw [stD_len, Bool.not_eq_true', beq_eq_false_iff_ne, List.length_cons, List.length_cons, List.length_cons, List.length_cons, List.length_cons]
      omega
    rw [if_neg (by rw [hf]; exact Bool.false_ne_true)] at hX
    exact q_when (b := true) (et_and1 ((et_test (ev_neI (ln rfl) ev_int)).to (b := true) (gg 4 (by decide))) ((et_test (ev_neI (ln rfl) ev_int)).to (b := true) (gg 2 (by decide)))) (fun _ => g_raise1 hX (ea1 (ev_var rfl)) Z_BadDeed.xc.oex Z_BadDeed.no ⟨rfl, rfl⟩) (fun z => by cases z)
end
/-- an error: its class, its field, what is told -/
abbrev erD (C f : Str) (x : D) : Option (Str × Str × D) := some (C, f, x)
/-- what is wrong with a deed: class, field, thing -/
def doE (S : Sc) (p : Int) (d : D) : Option (Str × Str × D) :=
  if deedF d = false then erD "BadDeed" "place" (.int p) else match d with
  | .tup [.str _, .str l, .str a, .str b] => if isNm l = false then erD "BadName" "name" (.str l) else if l ∈ lnN S.es then erD "NameTaken" "name" (.str l) else if ¬ a ∈ S.ps then erD "NoPost" "name" (.str a) else if ¬ b ∈ S.ps then erD "NoPost" "name" (.str b) else none
  | .tup [.str k, .str l] => if ¬ l ∈ lnN S.es then erD "NoLane" "name" (.str l) else if k = "take" then (if l ∈ S.gs then erD "StillWanted" "name" (.str l) else none) else if k = "want" then (if l ∈ S.gs then erD "NameTaken" "name" (.str l) else none) else if l ∈ S.gs then none else erD "NotWanted" "name" (.str l)
  | _ => none
/-- the scene behind a deed that is done -/
def doS (S : Sc) (d : D) : Sc :=
  { S with
    es := match d with
      | .tup [.str _, .str l, .str a, .str b] => S.es ++ [(l, a, b)]
      | .tup [.str k, .str l] => if k = "take" then cut1E S.es l else S.es
      | _ => S.es
    gs := match d with
      | .tup [.str k, .str l] => if k = "want" then goalL S.es (S.gs ++ [l]) else if k = "drop" then S.gs.filter (fun x => !decide (x = l)) else S.gs
      | _ => S.gs
    al := S.al ++ [(S.ps, S.es, S.gs)]
    dl := S.dl ++ [d] }
/-- scenes of bounded size -/
structure ScOk (S : Sc) : Prop where
  pl : S.ps.length ≤ 1000
  el : S.es.length ≤ 1000
  nd : (lnN S.es).Nodup
  gl : S.gs.length ≤ 1000
  gi : ∀ x ∈ S.gs, x ∈ lnN S.es
  dl : S.dl.length ≤ 1000
  al : S.al.length ≤ 1000
def doO (K : PySem.W.Frag) (A : ScA) (S : Sc) (p : Int) (d : D) (kr : Cells) : Oc := match doE S p d with
  | some (C, f, x) => Xt (He.ga K C) [(f, x)] (ScC K A S ++ kr)
  | none => Rt .non (ScC K A (doS S d) ++ kr)
/-- deeds whose second word is no long text -/
def DeedK (d : D) : Prop := DeedD d ∧ ∀ k l r, d = .tup (k :: .str l :: r) → l.length ≤ 1000
theorem deed_words {d : D} (h : deedF d = true) : (∃ l a b, d = .tup (stD ["put", l, a, b])) ∨ ∃ k l, d = .tup (stD [k, l]) ∧ (k = "take" ∨ k = "want" ∨ k = "drop") := by
  cases d with
  | tup ds =>
    unfold deedF at h
    rw [Bool.and_eq_true] at h
    obtain ⟨ss, rfl⟩ := all_strs h.1
    have h2 := h.2
    clear h
    obtain _ | ⟨a, _ | ⟨b, _ | ⟨c, _ | ⟨e, _ | ⟨f, r⟩⟩⟩⟩⟩ := ss
    · cases h2
    · cases h2
    · have h2 : decide (a ∈ (["take", "want", "drop"] : List Str)) = true := h2
      have h3 := of_decide_eq_true h2
      refine .inr ⟨a, b, rfl, ?_⟩
      rcases List.mem_cons.mp h3 with h | h
      · exact .inl h
      rcases List.mem_cons.mp h with h | h
      · exact .inr (.inl h)
      · exact .inr (.inr (List.mem_singleton.mp h))
    · cases h2
    · have h2 : decide (a ∈ (["put"] : List Str)) = true := h2
      have h3 := List.mem_singleton.mp (of_decide_eq_true h2)
      subst h3
      exact .inl ⟨b, c, e, rfl⟩
    · cases h2
  | _ => cases h
theorem put_er {K : PySem.W.Frag} {n o e : Addr} {S : Sc} {p : Int} {l a b : Str} (hf : deedF (.tup (stD ["put", l, a, b])) = true) :
    (∀ C f x, doE S p (.tup (stD ["put", l, a, b])) = some (C, f, x) → laO K n o e S.ps S.es (.str l) a b = Xt (He.ga K C) [(f, x)] (NetC K n o e S.ps S.es)) ∧ (doE S p (.tup (stD ["put", l, a, b])) = none → laO K n o e S.ps S.es (.str l) a b = Rt .non (NetC K n o e S.ps (S.es ++ [(l, a, b)]))) := by
  have h0 : doE S p (.tup (stD ["put", l, a, b])) = if isNm l = false then erD "BadName" "name" (.str l) else if l ∈ lnN S.es then erD "NameTaken" "name" (.str l) else if ¬ a ∈ S.ps then erD "NoPost" "name" (.str a) else if ¬ b ∈ S.ps then erD "NoPost" "name" (.str b) else none := by
    unfold doE
    rw [if_neg (by rw [hf]; decide)]
    rfl
  rw [h0]
  have h1 : laO K n o e S.ps S.es (.str l) a b = if isNm l = false then Xt (He.ga K "BadName") [("name", .str l)] (NetC K n o e S.ps S.es) else if l ∈ lnN S.es then Xt (He.ga K "NameTaken") [("name", .str l)] (NetC K n o e S.ps S.es) else if ¬ a ∈ S.ps then Xt (He.ga K "NoPost") [("name", .str a)] (NetC K n o e S.ps S.es) else if ¬ b ∈ S.ps then Xt (He.ga K "NoPost") [("name", .str b)] (NetC K n o e S.ps S.es) else Rt .non (NetC K n o e S.ps (S.es ++ [(l, a, b)])) := rfl
  rw [h1]
  by_cases c1 : isNm l = false
  · rw [if_pos c1, if_pos c1]
    exact ⟨fun C f x h => by cases h; rfl, fun h => by cases h⟩
  rw [if_neg c1, if_neg c1]
  by_cases c2 : l ∈ lnN S.es
  · rw [if_pos c2, if_pos c2]
    exact ⟨fun C f x h => by cases h; rfl, fun h => by cases h⟩
  rw [if_neg c2, if_neg c2]
  by_cases c3 : ¬ a ∈ S.ps
  · rw [if_pos c3, if_pos c3]
    exact ⟨fun C f x h => by cases h; rfl, fun h => by cases h⟩
  rw [if_neg c3, if_neg c3]
  by_cases c4 : ¬ b ∈ S.ps
  · rw [if_pos c4, if_pos c4]
    exact ⟨fun C f x h => by cases h; rfl, fun h => by cases h⟩
  rw [if_neg c4, if_neg c4]
  exact ⟨fun C f x h => (by cases h), fun _ => rfl⟩
def ct_do_deed (K : PySem.W.Frag) : Ct := Ct3 fun a b c ka out => ∃ A S p d, a = .val (.adr A.s) ∧ b = .val (.int p) ∧ c = .val d ∧ DeedK d ∧ ScOk S ∧ ka = ScC K A S ∧ out = doO K A S p d []
section
variable {P : Program} {w : World} {K : PySem.W.Frag} {mg : Str → Option Value} {base : Heap}
theorem ok_do_deed (T : Tx K mg) (F_Net_lane : Fn P w K mg base 6 (He.ma K (He.ga K "Net") "lane") ["self", "name", "start", "end"] (ct_Net_lane K)) (F_Net_copy : Fn P w K mg base 6 (He.ma K (He.ga K "Net") "copy") ["self"] (ct_Net_copy K)) (F_Net_cut : Fn P w K mg base 4 (He.ma K (He.ga K "Net") "cut") ["self", "lane"] (ct_Net_cut K)) (F_in_net_order : Fn P w K mg base 6 (He.ga K "in_net_order") ["net", "lanes"] (ct_in_net_order K)) (F_check_deed : Fn P w K mg base 4 (He.ga K "check_deed") ["place", "deed"] (ct_check_deed K)) (Z_NameTaken : Xn P w K mg base (He.ga K "NameTaken") "name") (Z_NotWanted : Xn P w K mg base (He.ga K "NotWanted") "name") (Z_StillWanted : Xn P w K mg base (He.ga K "StillWanted") "name") : Fn P w K mg base 8 (He.ga K "do_deed") ["scene", "place", "deed"] (ct_do_deed K) := by
  obtain ⟨fd, F⟩ := T.d_do_deed
  refine fn_ok F sc_do_deed (fun _ _ _ _ _ _ us hl => match us, hl with | [_, _, _], _ => rfl) ct3_len (fun cdv A outer s H E hr => ⟨_, (pss_cons (ps_expr (pe_call (F_check_deed.up (by decide)).ok hr rfl T.g_check_deed.1 T.g_check_deed.2 (F_check_deed.up (by decide)).bn .nil (pass_own rfl rfl rfl rfl) (pa_cons (pv 1) (pa_cons (pv 2) pa_nil))))
      (pss_cons (ps_set (i := 3) sc_do_deed.nd rfl (by first | exact Or.inl rfl | exact Or.inr rfl) (pe_tup (pa_cons (pe_meth0 (pe_fld (pv 0) rfl) T.cl_Net T.me_Net_copy (F_Net_copy.up (by decide)).ok hr (F_Net_copy.up (by decide)).bn .nil (pass_own rfl rfl rfl rfl)) (pa_cons (pe_fld (pv 0) rfl) pa_nil))))
      (pss_cons (ps_set (i := 4) sc_do_deed.nd rfl (by first | exact Or.inl rfl | exact Or.inr rfl) (pe_ix ix_seq (pv 2) pe_int fun _ _ => rfl))
      (pss_cons (ps_if (pt_cmpR (op_eqP (by have := (hr).units; exact this)) (pe_ix ix_seq (pv 2) pe_int fun _ _ => rfl) pe_str (nomark _))
      (pss_one (ps_expr (pe_meth (pe_fld (pv 0) rfl) T.cl_Net T.me_Net_lane (F_Net_lane.up (by decide)).ok hr (F_Net_lane.up (by decide)).bn .nil (pass_own rfl rfl rfl rfl) (pa_cons (pv 4) (pa_cons (pe_ix ix_seq (pv 2) pe_int fun _ _ => rfl) (pa_cons (pe_ix ix_seq (pv 2) pe_int fun _ _ => rfl) pa_nil))))))
      (pss_one (ps_expr (pe_call (F_in_net_order.up (by decide)).ok hr rfl T.g_in_net_order.1 T.g_in_net_order.2 (F_in_net_order.up (by decide)).bn .nil (pass_own rfl rfl rfl rfl) (pa_cons (pe_fld (pv 0) rfl) (pa_cons (pe_lst (pa_cons (pv 4) pa_nil)) pa_nil))))))
      (pss_cons (ps_set (i := 5) sc_do_deed.nd rfl (by first | exact Or.inl rfl | exact Or.inr rfl) (pe_cmpR op_inU (pv 4) (pe_fld (pv 0) rfl) (by with_unfolding_all rfl)))
      (pss_cons (ps_if (pt_cmpR (op_eqP (by have := (hr).units; exact this)) (pe_ix ix_seq (pv 2) pe_int fun _ _ => rfl) pe_str (nomark _))
      (pss_cons (ps_if (pt_val (pv 5))
      (pss_one (ps_raise rfl (takes_of rfl rfl rfl rfl) (pmk_oex Z_StillWanted.xc.oex Z_StillWanted.all.1 Z_StillWanted.all.2.1 Z_StillWanted.all.2.2.1 (hr.mono (by decide)) Z_StillWanted.all.2.2.2 .nil passes_no rfl T.g_StillWanted.1 (pa_cons (pv 4) pa_nil))))
      pss_nil)
      (pss_one (ps_expr (pe_meth (pe_fld (pv 0) rfl) T.cl_Net T.me_Net_cut (F_Net_cut.up (by decide)).ok hr (F_Net_cut.up (by decide)).bn .nil (pass_own rfl rfl rfl rfl) (pa_cons (pv 4) pa_nil)))))
      (pss_one (ps_if (pt_cmpR (op_eqP (by have := (hr).units; exact this)) (pe_ix ix_seq (pv 2) pe_int fun _ _ => rfl) pe_str (nomark _))
      (pss_cons (ps_if (pt_val (pv 5))
      (pss_one (ps_raise rfl (takes_of rfl rfl rfl rfl) (pmk_oex Z_NameTaken.xc.oex Z_NameTaken.all.1 Z_NameTaken.all.2.1 Z_NameTaken.all.2.2.1 (hr.mono (by decide)) Z_NameTaken.all.2.2.2 .nil passes_no rfl T.g_NameTaken.1 (pa_cons (pv 4) pa_nil))))
      pss_nil)
      (pss_one (ps_fld (pv 0) (pe_call (F_in_net_order.up (by decide)).ok hr rfl T.g_in_net_order.1 T.g_in_net_order.2 (F_in_net_order.up (by decide)).bn .nil (pass_own rfl rfl rfl rfl) (pa_cons (pe_fld (pv 0) rfl) (pa_cons (pe_op op_addU (pe_fld (pv 0) rfl) (pe_tup (pa_cons (pv 4) pa_nil))) pa_nil))) rfl)))
      (pss_one (ps_if (pt_cmpR (op_eqP (by have := (hr).units; exact this)) (pe_ix ix_seq (pv 2) pe_int fun _ _ => rfl) pe_str (nomark _))
      (pss_cons (ps_if (pt_not (pt_val (pv 5)))
      (pss_one (ps_raise rfl (takes_of rfl rfl rfl rfl) (pmk_oex Z_NotWanted.xc.oex Z_NotWanted.all.1 Z_NotWanted.all.2.1 Z_NotWanted.all.2.2.1 (hr.mono (by decide)) Z_NotWanted.all.2.2.2 .nil passes_no rfl T.g_NotWanted.1 (pa_cons (pv 4) pa_nil))))
      pss_nil)
      (pss_one (ps_fld (pv 0) (pe_callTy call_tupU rfl T.n_tuple (by decide +kernel) (pa_cons (pe_lc (te := (tVar 6)) (tt := (tTest (tOp (rEqP K true) (tVar 6) (tVar 4)))) (own := [("other", 6)]) rfl sc_do_deed.nd (pi_seq (pe_fld (pv 0) rfl)) (blk_ok ["scene", "place", "deed", "ahead", "lane", "is_wanted", "other"] (defScope s_do_deed) rfl rfl (by decide +kernel)) (fun _ _ _ _ _ => (pg_name (i := 6) sc_do_deed.nd rfl (by first | exact Or.inl rfl | exact Or.inr rfl))) (fun _ _ _ _ _ => (pts_one (pt_cmpR (op_neP (by have := (hr).units; exact this)) (pv 6) (pv 4) (nomark _)))) (fun _ _ _ _ _ => (pv 6))) pa_nil)) rfl)))
      pss_nil)))))
      (pss_cons (ps_expr (pe_bm PySem.F.plainAttrs_list PySem.F.slot_list_append PySem.F.type_list_append mt_append (pe_fld (pv 0) rfl) (pa_cons (pv 3) pa_nil)))
      (pss_one (ps_expr (pe_bm PySem.F.plainAttrs_list PySem.F.slot_list_append PySem.F.type_list_append mt_append (pe_fld (pv 0) rfl) (pa_cons (pv 2) pa_nil))))))))))), fun ws ka out B F0 Q hC hR hX => ?_⟩)
  obtain ⟨a, b, c, rfl, A, S, p, d, rfl, rfl, rfl, ⟨hd, hdl⟩, ok, rfl, rfl⟩ := hC
  have cd : ct_check_deed K [.val (.int p), .val d] [] (if deedF d then Rt .non [] else Xt (He.ga K "BadDeed") [("place", .int p)] []) := ⟨_, _, rfl, p, d, rfl, rfl, hd, rfl, rfl⟩
  unfold doO at hR hX
  cases hf : deedF d with
  | false =>
    have e0 : doE S p d = erD "BadDeed" "place" (.int p) := by unfold doE; rw [if_pos hf]
    rw [e0] at hX
    rw [hf] at cd
    exact q_dropP hX (evx_call (k2 := []) (kr := ScC K A S) (k3 := []) (ea2 (ev_var rfl) (ev_var rfl)) cd rfl) ⟨rfl, by rw [List.append_nil]; rfl⟩
  | true =>
  rw [hf, if_pos rfl] at cd
  refine q_drop (ev_callP (ea2 (ev_var rfl) (ev_var rfl)) cd) ?_
  have fr : ∀ {ro : Ro}, ro[0]? = some (some (.val (.adr A.s))) → RoT K (ScC K A S) ro (ro.set 0 (some (.val (ScD K S)))) := fun h => RoT.refl.set h (frz_sc fun _ z => z)
  have fgo : ∀ {ro : Ro} {k : Cells} {a o d2 : Addr}, ro[0]? = some (some (.val (.adr A.s))) → k = NetC K a o d2 S.ps S.es ++ ScC K A S → EvD K (tFld K (tVar 0) "goal") ro k (.val (.tup (stD S.gs))) k := fun h e => by
    subst e
    exact ev_fld (ev_var h) (.c 6 rfl) T.cl_Scene T.na_Scene_goal rfl
  refine q_asg (w := .val (aheD K (S.ps, S.es, S.gs))) (EvR.d (k1 := ScC K A S) (P := fun w k => w = .val (aheD K (S.ps, S.es, S.gs)) ∧ k = ScC K A S) (EvR.frzU (evr_tupR (ear_cons (P := fun w k => ∃ a o d, w = .val (.adr a) ∧ k = NetC K a o d S.ps S.es ++ ScC K A S) (R := fun w ws k => ∃ a o d, w = .val (.adr a) ∧ ws = [.val (.tup (stD S.gs))] ∧ k = NetC K a o d S.ps S.es ++ ScC K A S) (EvR.imp (EvR.thaw (k1 := []) (kt := ScC K A S) (evr_meth (k1 := []) (k2 := []) [] (ev_fld (ev_var rfl) .v T.cl_Scene T.na_Scene_base rfl) .v rfl ea_nil ⟨_, rfl, S.ps, S.es, rfl, Nat.le_trans ok.pl (by decide), Nat.le_trans ok.el (by decide), ok.nd, rfl, rfl⟩ (fun o k ⟨n, o2, d, e, _⟩ => ⟨_, e⟩)) sc_kd (fr rfl) ?th) fun w k h => ?im) (fun w k ⟨a, o, d2, e1, e2⟩ => EvAR.imp (ear_cD (fgo rfl e2) ear_nil) fun ws k' ⟨ws', h1, h2, h3⟩ => ⟨a, o, d2, e1, by rw [h1, h2], by rw [h3, e2]⟩)) (fun ws k h => ?tu)) fun w k h => ?fz) fun _ _ z => z) ?_
  case th =>
    rintro w k ⟨d', k3, ⟨a, o, d2, e1, e2⟩, e3, e4⟩
    cases e1
    refine ⟨⟨_, e3, rfl⟩, fun q hq => ?_⟩
    rw [e4, e2, List.append_nil] at hq
    exact net_ndI q hq
  case im =>
    obtain ⟨k0, ⟨d', k3, ⟨a, o, d2, e1, e2⟩, e3, e4⟩, e5⟩ := h
    cases e1
    exact ⟨a, o, d2, e3, by rw [e5, e4, e2, List.append_nil]⟩
  case tu =>
    obtain ⟨w, ws', h1, a, o, d2, h2, h3, h4⟩ := h
    exact ⟨[.adr a, .tup (stD S.gs)], by rw [h1, h2, h3]; rfl, (show 2 ≤ 100000 by decide)⟩
  case fz =>
    obtain ⟨ds, ⟨w1, ws', h1, a, o, d2, h2, h3, h4⟩, h5⟩ := h
    have : ds = [.adr a, .tup (stD S.gs)] := (List.map_inj_right (f := W.val) (fun _ _ h => W.val.inj h)).mp (by rw [h1, h2, h3]; rfl)
    subst this
    exact ⟨_, aheD K (S.ps, S.es, S.gs), NetC K a o d2 S.ps S.es, ScC K A S, h5, by rw [h4]; exact List.perm_append_comm, net_kd, FzT.tup ⟨_, _, rfl, .a (frz_net fun _ z => z), _, _, rfl, .s _, rfl⟩, rfl, rfl⟩
  rcases deed_words hf with ⟨l, a, b, rfl⟩ | ⟨k, l, rfl, hk⟩
  · have hl1 : nmOk (.str l) := hdl (.str "put") l _ rfl
    refine q_asg (w := .val (.str l)) (ev_ixV (ev_var rfl) ev_int .vt (atI_nat (j := 1) rfl)) ?_
    refine q_if (b := true) ((et_test (ev_eq (d := .str "put") (e := .str "put") (ev_ixV (ev_var rfl) ev_int .vt (atI_nat (j := 0) rfl)) ev_str .v .v rfl rfl)).to (b := true) (by decide)) (fun _ => ?_) (fun z => by cases z)
    have lane : ∀ out, laO K A.n A.o A.e S.ps S.es (.str l) a b = out → ct_Net_lane K [.val (.adr A.n), .val (.str l), .val (.str a), .val (.str b)] (NetC K A.n A.o A.e S.ps S.es) out := fun out h => ⟨_, _, _, _, rfl, A.n, A.o, A.e, S.ps, S.es, .str l, a, b, rfl, rfl, hl1, rfl, rfl, Nat.lt_of_le_of_lt ok.el (by decide), rfl, h.symm⟩
    have args : ∀ {ro : Ro} {k : Cells}, ro[2]? = some (some (.val (.tup (stD ["put", l, a, b])))) → ro[4]? = some (some (.val (.str l))) → EvA K (tCons (tVar 4) (tCons (tOp (rIx K) (tVar 2) (tC (.int 2))) (tCons (tOp (rIx K) (tVar 2) (tC (.int 3))) tNil))) ro k [.val (.str l), .val (.str a), .val (.str b)] k := fun h1 h2 => ea3 (ev_var h2) (ev_ixV (ev_var h1) ev_int .vt (atI_nat (j := 2) rfl)) (ev_ixV (ev_var h1) ev_int .vt (atI_nat (j := 3) rfl))
    have er : ∀ C f x, doE S p (.tup (stD ["put", l, a, b])) = some (C, f, x) → laO K A.n A.o A.e S.ps S.es (.str l) a b = Xt (He.ga K C) [(f, x)] (NetC K A.n A.o A.e S.ps S.es) := fun C f x h => (put_er hf).1 C f x h
    cases he : doE S p (.tup (stD ["put", l, a, b])) with
    | some z =>
      obtain ⟨C, f, x⟩ := z
      rw [he] at hX
      exact g_dropP hX (evx_meth (k2 := NetC K A.n A.o A.e S.ps S.es) (k3 := NetC K A.n A.o A.e S.ps S.es) (ScR K A S) (ev_fld (ev_var rfl) (.c 3 rfl) T.cl_Scene T.na_Scene_base rfl) (.c 0 rfl) rfl (args rfl rfl) (lane _ (er _ _ _ he)) rfl) ⟨rfl, by rw [List.append_nil]; rfl⟩
    | none =>
    rw [he] at hR
    refine g_drop (ev_methA (k2 := NetC K A.n A.o A.e S.ps S.es) (k3 := NetC K A.n A.o A.e S.ps (S.es ++ [(l, a, b)])) (d := .non) (ScR K A S) (ev_fld (ev_var rfl) (.c 3 rfl) T.cl_Scene T.na_Scene_base rfl) (.c 0 rfl) rfl (args rfl rfl) (lane _ ((put_er hf).2 he))) ?_
    refine q_asg (w := .val (.bl (decide (l ∈ S.gs)))) (ev_inL (ev_var rfl) (ev_fld (ev_var rfl) (.c 3 rfl) T.cl_Scene T.na_Scene_goal rfl) .vt) ?_
    refine q_if (b := false) ((et_test (ev_eq (d := .str "put") (e := .str "take") (ev_ixV (ev_var rfl) ev_int .vt (atI_nat (j := 0) rfl)) ev_str .v .v rfl rfl)).to (b := false) (by decide)) (fun z => by cases z) (fun _ => ?_)
    refine g_if (b := false) ((et_test (ev_eq (d := .str "put") (e := .str "want") (ev_ixV (ev_var rfl) ev_int .vt (atI_nat (j := 0) rfl)) ev_str .v .v rfl rfl)).to (b := false) (by decide)) (fun z => by cases z) (fun _ => ?_)
    refine g_if (b := false) ((et_test (ev_eq (d := .str "put") (e := .str "drop") (ev_ixV (ev_var rfl) ev_int .vt (atI_nat (j := 0) rfl)) ev_str .v .v rfl rfl)).to (b := false) (by decide)) (fun z => by cases z) (fun _ => g_next ?_)
    refine q_app (j0 := 5) (j := 5) (d := aheD K (S.ps, S.es, S.gs)) (ev_fld (ev_var rfl) (.c 3 rfl) T.cl_Scene T.na_Scene_ahead rfl) rfl (ev_var rfl) rfl (by rw [List.length_map]; have := ok.al; omega) ?_
    refine g_app (j0 := 4) (j := 4) (d := D.tup (stD ["put", l, a, b])) (ev_fld (ev_var rfl) (.c 3 rfl) T.cl_Scene T.na_Scene_deeds rfl) rfl (ev_var rfl) rfl (by have := ok.dl; omega) (g_end hR ⟨rfl, ?_⟩)
    rw [List.append_nil]
    unfold ScC ScR doS
    simp only [List.map_append]
    rfl
  · have kn : k ≠ "put" := by rcases hk with rfl | rfl | rfl <;> decide
    refine q_asg (w := .val (.str l)) (ev_ixV (ev_var rfl) ev_int .vt (atI_nat (j := 1) rfl)) ?_
    have ino : ∀ ws t, ∀ {b0 : W}, Lk [] b0 t (stD ws) false → ct_in_net_order K [.val (NetD K S.ps S.es), b0] [] (inoO K S.es ws) := fun ws t b0 h => ⟨_, _, rfl, S.ps, S.es, ws, t, rfl, h, Nat.le_trans ok.el (by decide), rfl, rfl⟩
    refine q_if (b := false) ((et_test (ev_eq (d := .str k) (e := .str "put") (ev_ixV (ev_var rfl) ev_int .vt (atI_nat (j := 0) rfl)) ev_str .v .v rfl rfl)).to (show decide (k = "put") = false from decide_eq_false kn)) (fun z => by cases z) (fun _ => ?_)
    by_cases hm : l ∈ lnN S.es
    rotate_left
    · have e1 : inoO K S.es [l] = Xt (He.ga K "NoLane") [("name", .str l)] [] := by
        unfold inoO
        rw [List.find?_cons, show (!decide (l ∈ lnN S.es)) = true by rw [decide_eq_false hm]; rfl]
      have e0 : doE S p (.tup (stD [k, l])) = erD "NoLane" "name" (.str l) := by
        unfold doE
        rw [if_neg (by rw [hf]; decide)]
        exact if_pos hm
      rw [e0] at hX
      exact g_dropP hX (EvX.thaw (k1 := []) (k2 := []) (evx_call (k2 := []) (kr := []) (k3 := []) (ea2 (ev_fld (ev_var rfl) .v T.cl_Scene T.na_Scene_base rfl) (evn_lst (ds := stD [l]) (ea1 (ev_var rfl)) (show 1 ≤ 100000 by decide)).lst) (e1 ▸ ino [l] false .vl) rfl) sc_kd (fr rfl) rfl (fun _ z => by cases z)) ⟨rfl, by rw [List.append_nil]; rfl⟩
    have e1 : inoO K S.es [l] = Rt (.tup (stD (goalL S.es [l]))) [] := by
      unfold inoO
      rw [List.find?_cons, show (!decide (l ∈ lnN S.es)) = false by rw [decide_eq_true hm]; rfl]
      rfl
    refine g_drop (EvD.thaw (k1 := []) (k2 := []) (ev_callP (ea2 (ev_fld (ev_var rfl) .v T.cl_Scene T.na_Scene_base rfl) (evn_lst (ds := stD [l]) (ea1 (ev_var rfl)) (show 1 ≤ 100000 by decide)).lst) (e1 ▸ ino [l] false .vl)) sc_kd (fr rfl) (show tI (.tup (stD (goalL S.es [l]))) = true from tIL_stD _) (fun _ z => by cases z)) ?_
    refine q_asg (w := .val (.bl (decide (l ∈ S.gs)))) (ev_inL (ev_var rfl) (ev_fld (ev_var rfl) (.c 3 rfl) T.cl_Scene T.na_Scene_goal rfl) .vt) ?_
    have dE : doE S p (.tup (stD [k, l])) = if k = "take" then (if l ∈ S.gs then erD "StillWanted" "name" (.str l) else none) else if k = "want" then (if l ∈ S.gs then erD "NameTaken" "name" (.str l) else none) else if l ∈ S.gs then none else erD "NotWanted" "name" (.str l) := by
      unfold doE
      rw [if_neg (by rw [hf]; decide)]
      exact if_neg fun z => z hm
    rw [dE] at hR hX
    rcases hk with rfl | rfl | rfl
    · rw [if_pos rfl] at hR hX
      refine q_if (b := true) ((et_test (ev_eq (d := .str "take") (e := .str "take") (ev_ixV (ev_var rfl) ev_int .vt (atI_nat (j := 0) rfl)) ev_str .v .v rfl rfl)).to (b := true) (by decide)) (fun _ => ?_) (fun z => by cases z)
      refine q_when (b := decide (l ∈ S.gs)) (et_B (ev_var rfl)) (fun hb => ?_) (fun hb => ?_)
      · rw [if_pos (of_decide_eq_true hb)] at hX
        exact g_raise1 hX (ea1 (ev_var rfl)) Z_StillWanted.xc.oex Z_StillWanted.no ⟨rfl, by rw [List.append_nil]; rfl⟩
      rw [if_neg (of_decide_eq_false hb)] at hR
      refine g_drop (ev_methA (k2 := NetC K A.n A.o A.e S.ps S.es) (k3 := NetC K A.n A.o A.e S.ps (cut1E S.es l)) (d := .non) (ScR K A S) (ev_fld (ev_var rfl) (.c 3 rfl) T.cl_Scene T.na_Scene_base rfl) (.c 0 rfl) rfl (ea1 (ev_var rfl)) ⟨_, _, rfl, A.n, A.o, A.e, S.ps, S.es, l, rfl, rfl, rfl, ok.nd, (if_pos hm).symm⟩) ?_
      refine q_app (j0 := 5) (j := 5) (d := aheD K (S.ps, S.es, S.gs)) (ev_fld (ev_var rfl) (.c 3 rfl) T.cl_Scene T.na_Scene_ahead rfl) rfl (ev_var rfl) rfl (by rw [List.length_map]; have := ok.al; omega) ?_
      refine g_app (j0 := 4) (j := 4) (d := D.tup (stD ["take", l])) (ev_fld (ev_var rfl) (.c 3 rfl) T.cl_Scene T.na_Scene_deeds rfl) rfl (ev_var rfl) rfl (by have := ok.dl; omega) (g_end hR ⟨rfl, ?_⟩)
      rw [List.append_nil]
      unfold ScC ScR doS
      simp only [List.map_append]
      rfl
    · rw [if_neg (by decide), if_pos rfl] at hR hX
      refine q_if (b := false) ((et_test (ev_eq (d := .str "want") (e := .str "take") (ev_ixV (ev_var rfl) ev_int .vt (atI_nat (j := 0) rfl)) ev_str .v .v rfl rfl)).to (b := false) (by decide)) (fun z => by cases z) (fun _ => ?_)
      refine g_if (b := true) ((et_test (ev_eq (d := .str "want") (e := .str "want") (ev_ixV (ev_var rfl) ev_int .vt (atI_nat (j := 0) rfl)) ev_str .v .v rfl rfl)).to (b := true) (by decide)) (fun _ => ?_) (fun z => by cases z)
      refine q_when (b := decide (l ∈ S.gs)) (et_B (ev_var rfl)) (fun hb => ?_) (fun hb => ?_)
      · rw [if_pos (of_decide_eq_true hb)] at hX
        exact g_raise1 hX (ea1 (ev_var rfl)) Z_NameTaken.xc.oex Z_NameTaken.no ⟨rfl, by rw [List.append_nil]; rfl⟩
      rw [if_neg (of_decide_eq_false hb)] at hR
      have e2 : inoO K S.es (S.gs ++ [l]) = Rt (.tup (stD (goalL S.es (S.gs ++ [l])))) [] := by
        unfold inoO
        rw [List.find?_eq_none.mpr fun y hy => ?_]
        have : y ∈ lnN S.es := (List.mem_append.mp hy).elim (ok.gi y) fun h => by rw [List.mem_singleton.mp h]; exact hm
        rw [decide_eq_true this]
        decide
      refine g_fld (j := 3) (a := A.s) (k1 := ScC K A S) (k2 := ScC K A S) (d := .tup (stD (goalL S.es (S.gs ++ [l])))) (EvD.thaw (k1 := []) (k2 := []) (ev_callP (ea2 (ev_fld (ev_var rfl) .v T.cl_Scene T.na_Scene_base rfl) ((ev_catT (ev_fld (ev_var rfl) .v T.cl_Scene T.na_Scene_goal rfl) (ev_tup (ds := stD [l]) (ea1 (ev_var rfl)) (show 1 ≤ 100000 by decide)) (by rw [stD_len, stD_len]; have := ok.gl; show S.gs.length + 1 ≤ 100000; omega)).to (congrArg (fun z => W.val (.tup z)) (stD_app S.gs [l])))) (e2 ▸ ino (S.gs ++ [l]) true .vt)) sc_kd (fr rfl) (show tI (.tup (stD (goalL S.es (S.gs ++ [l])))) = true from tIL_stD _) (fun _ z => by cases z)) (ev_var rfl) rfl T.cl_Scene T.na_Scene_goal (show 5 < 900 by decide) ?_
      refine q_app (j0 := 5) (j := 5) (d := aheD K (S.ps, S.es, S.gs)) (ev_fld (ev_var rfl) (.c 3 rfl) T.cl_Scene T.na_Scene_ahead rfl) rfl (ev_var rfl) rfl (by rw [List.length_map]; have := ok.al; omega) ?_
      refine g_app (j0 := 4) (j := 4) (d := D.tup (stD ["want", l])) (ev_fld (ev_var rfl) (.c 3 rfl) T.cl_Scene T.na_Scene_deeds rfl) rfl (ev_var rfl) rfl (by have := ok.dl; omega) (g_end hR ⟨rfl, ?_⟩)
      rw [List.append_nil]
      unfold ScC ScR doS
      simp only [List.map_append]
      rfl
    · rw [if_neg (by decide), if_neg (by decide)] at hR hX
      refine q_if (b := false) ((et_test (ev_eq (d := .str "drop") (e := .str "take") (ev_ixV (ev_var rfl) ev_int .vt (atI_nat (j := 0) rfl)) ev_str .v .v rfl rfl)).to (b := false) (by decide)) (fun z => by cases z) (fun _ => ?_)
      refine g_if (b := false) ((et_test (ev_eq (d := .str "drop") (e := .str "want") (ev_ixV (ev_var rfl) ev_int .vt (atI_nat (j := 0) rfl)) ev_str .v .v rfl rfl)).to (b := false) (by decide)) (fun z => by cases z) (fun _ => ?_)
      refine g_if (b := true) ((et_test (ev_eq (d := .str "drop") (e := .str "drop") (ev_ixV (ev_var rfl) ev_int .vt (atI_nat (j := 0) rfl)) ev_str .v .v rfl rfl)).to (b := true) (by decide)) (fun _ => ?_) (fun z => by cases z)
      refine q_when (b := !decide (l ∈ S.gs)) (et_not (et_B (ev_var rfl))) (fun hb => ?_) (fun hb => ?_)
      · rw [Bool.not_eq_true'] at hb
        rw [if_neg (of_decide_eq_false hb)] at hX
        exact g_raise1 hX (ea1 (ev_var rfl)) Z_NotWanted.xc.oex Z_NotWanted.no ⟨rfl, by rw [List.append_nil]; rfl⟩
      rw [Bool.not_eq_false'] at hb
      rw [if_pos (of_decide_eq_true hb)] at hR
      refine g_fld (j := 3) (a := A.s) (k1 := ScC K A S) (k2 := ScC K A S) (d := .tup (stD (S.gs.filter fun x => !decide (x = l)))) (ev_cb (ea1 ((evn_filt (xs := S.gs) (g := fun s => W.val (.str s)) (f := fun s => D.str s) (p := fun x => !decide (x = l)) (ei_strsL (ev_fld (ev_var rfl) (.c 3 rfl) T.cl_Scene T.na_Scene_goal rfl) .vt) (by decide) (by have := ok.gl; omega) ⟨trivial, fun _ => trivial⟩ (fun x hx => et_test (ev_ne (d := .str x) (e := .str l) (ev_var rfl) (ev_var rfl) .v .v rfl rfl)) (fun x hx _ => ev_var rfl)).lst)) (rc_tupL .vl (sqf_stD _ _))) (ev_var rfl) rfl T.cl_Scene T.na_Scene_goal (show 5 < 900 by decide) ?_
      refine q_app (j0 := 5) (j := 5) (d := aheD K (S.ps, S.es, S.gs)) (ev_fld (ev_var rfl) (.c 3 rfl) T.cl_Scene T.na_Scene_ahead rfl) rfl (ev_var rfl) rfl (by rw [List.length_map]; have := ok.al; omega) ?_
      refine g_app (j0 := 4) (j := 4) (d := D.tup (stD ["drop", l])) (ev_fld (ev_var rfl) (.c 3 rfl) T.cl_Scene T.na_Scene_deeds rfl) rfl (ev_var rfl) rfl (by have := ok.dl; omega) (g_end hR ⟨rfl, ?_⟩)
      rw [List.append_nil]
      unfold ScC ScR doS
      simp only [List.map_append]
      rfl
end
/-- the names of lanes that are put: names, or one of two that are none; no more than 13 lanes are there -/
def PutN (m : Nat) (d : D) : Prop := ∀ l p q, d = .tup (stD ["put", l, p, q]) → (isNm l = true ∨ l = "A" ∨ l = "") ∧ m ≤ 13
theorem at_tkD (p : Pl) (xs : List D) (m : Int) (hm : m = (xs.length : Nat)) (h0 : xs ≠ []) : ∃ d ∈ xs, atI xs (tk p m).1 = some d := by
  have hp : 0 < m := by
    have := List.length_pos_iff.mpr h0
    omega
  have t := tk_lt p hp
  have hi : (tk p m).1.toNat < xs.length := by omega
  exact ⟨xs[(tk p m).1.toNat], List.getElem_mem hi, atZ t.1 (List.getElem?_eq_getElem hi)⟩
theorem dk_tup {ss : List Str} (h : ∀ s ∈ ss, s.length ≤ 1000) (hl : ss.length ≤ 1000) : DeedK (.tup (stD ss)) := by
  refine ⟨.inr (.inr (.inr ⟨_, rfl, by rw [stD_len]; exact hl, fun x hx => ?_⟩)), fun k l r e => ?_⟩
  · obtain ⟨s, _, rfl⟩ := List.mem_map.mp hx
    exact .inr ⟨s, rfl⟩
  · obtain _ | ⟨s0, _ | ⟨s1, t⟩⟩ := ss
    · cases e
    · cases e
    · cases e
      exact h _ (List.mem_cons_of_mem _ List.mem_cons_self)
/-- the odd deeds -/
def oddD (nm ln : Str) : List D := [.tup (stD ["put", nm]), .tup (stD ["take", ln, ln]), .lst (stD ["take", ln]), .tup (stD ["Take", ln]), .tup [.str "take", .non], .non, .tup [], .str "take"]
theorem odd_ok {m : Nat} {nm ln : Str} (h1 : nm.length ≤ 1000) (h2 : ln.length ≤ 1000) {d : D} (h : d ∈ oddD nm ln) : DeedK d ∧ PutN m d ∧ pl 60 d = true := by
  have three : ∀ {d : D}, (∀ ds, d ≠ .tup ds) → DeedD d → pl 60 d = true → DeedK d ∧ PutN m d ∧ pl 60 d = true := fun h hd hp => ⟨⟨hd, fun k l r e => absurd e (h _)⟩, fun l p q e => absurd e (h _), hp⟩
  have lt : ("take" : Str).length ≤ 1000 := by decide
  unfold oddD at h
  rcases List.mem_cons.mp h with rfl | h
  · refine ⟨dk_tup (fun s hs => ?_) (show 2 ≤ 1000 by decide), fun l p q e => (by cases e), pl_stD _ 59⟩
    rcases List.mem_cons.mp hs with rfl | hs
    · decide
    · rw [List.mem_singleton.mp hs]; exact h1
  rcases List.mem_cons.mp h with rfl | h
  · refine ⟨dk_tup (fun s hs => ?_) (show _ ≤ 1000 from Nat.le_of_ble_eq_true rfl), fun l p q e => (by cases e), pl_stD _ 59⟩
    rcases List.mem_cons.mp hs with rfl | hs
    · exact lt
    rcases List.mem_cons.mp hs with rfl | hs
    · exact h2
    · rw [List.mem_singleton.mp hs]; exact h2
  rcases List.mem_cons.mp h with rfl | h
  · exact three (fun _ z => by cases z) (.inr (.inr (.inl ⟨_, rfl, show 2 ≤ 1000 by decide⟩))) (pl_stD _ 59)
  rcases List.mem_cons.mp h with rfl | h
  · refine ⟨dk_tup (fun s hs => ?_) (show _ ≤ 1000 from Nat.le_of_ble_eq_true rfl), fun l p q e => (by cases e), pl_stD _ 59⟩
    rcases List.mem_cons.mp hs with rfl | hs
    · decide
    · rw [List.mem_singleton.mp hs]; exact h2
  rcases List.mem_cons.mp h with rfl | h
  · refine ⟨⟨.inr (.inr (.inr ⟨_, rfl, show 2 ≤ 1000 by decide, fun x hx => ?_⟩)), fun k l r e => by cases e⟩, fun l p q e => (by cases e), rfl⟩
    rcases List.mem_cons.mp hx with rfl | hx
    · exact .inr ⟨_, rfl⟩
    · exact .inl (List.mem_singleton.mp hx)
  rcases List.mem_cons.mp h with rfl | h
  · exact three (fun _ z => by cases z) (.inl rfl) rfl
  rcases List.mem_cons.mp h with rfl | h
  · exact ⟨⟨.inr (.inr (.inr ⟨_, rfl, Nat.zero_le _, fun x hx => by cases hx⟩)), fun k l r e => by cases e⟩, fun l p q e => (by cases e), rfl⟩
  · rw [List.mem_singleton.mp h]
    exact three (fun _ z => by cases z) (.inr (.inl ⟨_, rfl⟩)) rfl
def aftE (es : List Ln) (d : D) : List Ln := match d with
  | .tup [.str _, .str l, .str a, .str b] => es ++ [(l, a, b)]
  | .tup [.str k, .str l] => if k = "take" then cut1E es l else es
  | _ => es
def aftW (ws : List Str) (d : D) : List Str := match d with
  | .tup [.str k, .str l] => if k = "want" then ws ++ [l] else if k = "drop" then ws.filter (fun x => !decide (x = l)) else ws
  | _ => ws
abbrev LS := List Ln × List Str × List D
structure RowOk (ps : List Str) (z : LS) : Prop where
  nd : (lnN z.1).Nodup
  nm : ∀ s ∈ lnN z.1, isNm s = true
  st : ∀ r ∈ z.1, r.2.1 ∈ ps ∧ r.2.2 ∈ ps
  el : z.1.length ≤ 14
  wi : ∀ x ∈ z.2.1, x ∈ lnN z.1
  wd : z.2.1.Nodup
theorem mem_gl {es : List Ln} {ws : List Str} {x : Str} : x ∈ goalL es ws ↔ x ∈ lnN es ∧ x ∈ ws := by
  unfold goalL
  rw [List.mem_filter, decide_eq_true_eq]
theorem gl_put {es : List Ln} {ws : List Str} {r : Ln} (h : ¬ r.1 ∈ ws) : goalL (es ++ [r]) ws = goalL es ws := by
  unfold goalL lnN
  rw [List.map_append, List.filter_append]
  show _ ++ [r.1].filter _ = _
  rw [List.filter_cons, if_neg (by rw [decide_eq_true_eq]; exact h), List.filter_nil, List.append_nil]
theorem lnN_cut1 (es : List Ln) (l : Str) : lnN (cut1E es l) = (lnN es).filter fun x => !decide (x = l) := by
  unfold lnN cut1E
  rw [List.filter_map]
  rfl
theorem gl_cut {es : List Ln} {ws : List Str} {l : Str} (h : ¬ l ∈ ws) : goalL (cut1E es l) ws = goalL es ws := by
  unfold goalL
  rw [lnN_cut1, List.filter_filter]
  refine List.filter_congr fun x _ => ?_
  by_cases hx : x ∈ ws
  · have : x ≠ l := fun z => h (z ▸ hx)
    rw [decide_eq_true hx, decide_eq_false this]; rfl
  · rw [decide_eq_false hx]; rfl
theorem gl_want {es : List Ln} {ws : List Str} {l : Str} : goalL es (goalL es ws ++ [l]) = goalL es (ws ++ [l]) := by
  unfold goalL
  refine List.filter_congr fun x hx => decide_eq_decide.mpr ?_
  rw [List.mem_append, List.mem_append, List.mem_filter, decide_eq_true_eq]
  exact ⟨fun h => h.elim (fun h => .inl h.2) .inr, fun h => h.elim (fun h => .inl ⟨hx, h⟩) .inr⟩
theorem gl_drop {es : List Ln} {ws : List Str} {l : Str} : (goalL es ws).filter (fun x => !decide (x = l)) = goalL es (ws.filter fun x => !decide (x = l)) := by
  unfold goalL
  rw [List.filter_filter]
  refine List.filter_congr fun x _ => ?_
  rw [Bool.eq_iff_iff]
  simp [List.mem_filter, and_comm]
/-- one deed that is done -/
theorem row_step {ps : List Str} {S : Sc} {z : LS} {d : D} {p : Int} (r : RowOk ps z) (hp : S.ps = ps) (e1 : z.1 = S.es) (e2 : goalL z.1 z.2.1 = S.gs) (hd : PutN S.es.length d) (he : doE S p d = none) :
    RowOk ps (aftE z.1 d, aftW z.2.1 d, z.2.2 ++ [d]) ∧ aftE z.1 d = (doS S d).es ∧ goalL (aftE z.1 d) (aftW z.2.1 d) = (doS S d).gs := by
  have hf : deedF d = true := by
    cases h : deedF d with
    | true => rfl
    | false =>
      unfold doE at he
      rw [if_pos h] at he
      cases he
  unfold doE at he
  rw [if_neg (by rw [hf]; decide)] at he
  obtain ⟨es, ws, dl⟩ := z
  subst e1
  rcases deed_words hf with ⟨l, x, y, rfl⟩ | ⟨k, l, rfl, hk⟩
  · have he : (if isNm l = false then erD "BadName" "name" (.str l) else if l ∈ lnN S.es then erD "NameTaken" "name" (.str l) else if ¬ x ∈ S.ps then erD "NoPost" "name" (.str x) else if ¬ y ∈ S.ps then erD "NoPost" "name" (.str y) else none) = none := he
    by_cases c1 : isNm l = false
    · rw [if_pos c1] at he; cases he
    rw [if_neg c1] at he
    by_cases c2 : l ∈ lnN S.es
    · rw [if_pos c2] at he; cases he
    rw [if_neg c2] at he
    by_cases c3 : ¬ x ∈ S.ps
    · rw [if_pos c3] at he; cases he
    rw [if_neg c3] at he
    by_cases c4 : ¬ y ∈ S.ps
    · rw [if_pos c4] at he; cases he
    rw [Classical.not_not, hp] at c3 c4
    have lw : ¬ l ∈ ws := fun h => c2 (r.wi l h)
    have ln : lnN (S.es ++ [(l, x, y)]) = lnN S.es ++ [l] := List.map_append
    refine ⟨⟨?_, ?_, ?_, ?_, ?_, r.wd⟩, rfl, (gl_put lw).trans e2⟩
    · show (lnN (S.es ++ [(l, x, y)])).Nodup
      rw [ln, List.nodup_append]
      exact ⟨r.nd, List.nodup_cons.mpr ⟨List.not_mem_nil, List.nodup_nil⟩, fun a ha b hb => by rw [List.mem_singleton.mp hb]; exact fun z => c2 (z ▸ ha)⟩
    · show ∀ s ∈ lnN (S.es ++ [(l, x, y)]), isNm s = true
      rw [ln]
      intro s hs
      rcases List.mem_append.mp hs with h | h
      · exact r.nm s h
      · rw [List.mem_singleton.mp h]
        cases h2 : isNm l with
        | true => rfl
        | false => exact absurd h2 c1
    · show ∀ q ∈ S.es ++ [(l, x, y)], q.2.1 ∈ ps ∧ q.2.2 ∈ ps
      intro q hq
      rcases List.mem_append.mp hq with h | h
      · exact r.st q h
      · rw [List.mem_singleton.mp h]; exact ⟨c3, c4⟩
    · show (S.es ++ [(l, x, y)]).length ≤ 14
      have := (hd l x y rfl).2
      rw [List.length_append, List.length_singleton]
      omega
    · show ∀ s ∈ ws, s ∈ lnN (S.es ++ [(l, x, y)])
      rw [ln]
      exact fun s hs => List.mem_append_left _ (r.wi s hs)
  · have he : (if ¬ l ∈ lnN S.es then erD "NoLane" "name" (.str l) else if k = "take" then (if l ∈ S.gs then erD "StillWanted" "name" (.str l) else none) else if k = "want" then (if l ∈ S.gs then erD "NameTaken" "name" (.str l) else none) else if l ∈ S.gs then none else erD "NotWanted" "name" (.str l)) = none := he
    by_cases hm : l ∈ lnN S.es
    rotate_left
    · rw [if_pos hm] at he; cases he
    rw [if_neg (fun z => z hm)] at he
    have inW : l ∈ S.gs ↔ l ∈ ws := by
      rw [← e2]
      exact mem_gl.trans ⟨fun h => h.2, fun h => ⟨hm, h⟩⟩
    rcases hk with rfl | rfl | rfl
    · rw [if_pos rfl] at he
      by_cases hg : l ∈ S.gs
      · rw [if_pos hg] at he; cases he
      have lw : ¬ l ∈ ws := fun h => hg (inW.mpr h)
      refine ⟨⟨?_, ?_, ?_, ?_, ?_, r.wd⟩, rfl, (gl_cut lw).trans e2⟩
      · show (lnN (cut1E S.es l)).Nodup
        rw [lnN_cut1]
        exact List.filter_sublist.nodup r.nd
      · show ∀ s ∈ lnN (cut1E S.es l), isNm s = true
        rw [lnN_cut1]
        exact fun s hs => r.nm s (List.mem_filter.mp hs).1
      · exact fun q hq => r.st q (List.mem_filter.mp hq).1
      · exact Nat.le_trans (List.length_filter_le _ _) r.el
      · show ∀ s ∈ ws, s ∈ lnN (cut1E S.es l)
        rw [lnN_cut1]
        exact fun s hs => by
          have hsl : s ≠ l := fun z => lw (z ▸ hs)
          exact List.mem_filter.mpr ⟨r.wi s hs, by rw [decide_eq_false hsl]; rfl⟩
    · rw [if_neg (by decide), if_pos rfl] at he
      by_cases hg : l ∈ S.gs
      · rw [if_pos hg] at he; cases he
      have lw : ¬ l ∈ ws := fun h => hg (inW.mpr h)
      refine ⟨⟨r.nd, r.nm, r.st, r.el, ?_, ?_⟩, rfl, ?_⟩
      · show ∀ s ∈ ws ++ [l], s ∈ lnN S.es
        exact fun s hs => (List.mem_append.mp hs).elim (r.wi s) fun h => by rw [List.mem_singleton.mp h]; exact hm
      · show (ws ++ [l]).Nodup
        rw [List.nodup_append]
        exact ⟨r.wd, List.nodup_cons.mpr ⟨List.not_mem_nil, List.nodup_nil⟩, fun a ha b hb => by rw [List.mem_singleton.mp hb]; exact fun z => lw (z ▸ ha)⟩
      · show goalL S.es (ws ++ [l]) = goalL S.es (S.gs ++ [l])
        rw [← e2]
        exact gl_want.symm
    · rw [if_neg (by decide), if_neg (by decide)] at he
      refine ⟨⟨r.nd, r.nm, r.st, r.el, ?_, ?_⟩, rfl, ?_⟩
      · show ∀ s ∈ ws.filter (fun x => !decide (x = l)), s ∈ lnN S.es
        exact fun s hs => r.wi s (List.mem_filter.mp hs).1
      · show (ws.filter (fun x => !decide (x = l))).Nodup
        exact List.filter_sublist.nodup r.wd
      · show goalL S.es (ws.filter (fun x => !decide (x = l))) = S.gs.filter (fun x => !decide (x = l))
        rw [← e2]
        exact gl_drop.symm
/-! ### deeds one behind another -/
/-- the scene and the first error of deeds done one behind another from a place on -/
def runS : Nat → Sc → List D → Sc × Option (Str × Str × D)
  | _, S, [] => (S, none)
  | p, S, d :: r => match doE S (p : Int) d with
    | some e => (S, some e)
    | none => runS (p + 1) (doS S d) r
theorem doE_at {S : Sc} {p q : Int} {d : D} (h : doE S p d = none) : doE S q d = none := by
  unfold doE at h ⊢
  split at h
  · cases h
  · rename_i hf
    rw [if_neg hf]
    exact h
theorem runS_some {S : Sc} {p : Nat} {d : D} {r : List D} {e : Str × Str × D} (h : doE S (p : Int) d = some e) : runS p S (d :: r) = (S, some e) := by
  rw [runS, h]
theorem runS_none {S : Sc} {p : Nat} {d : D} {r : List D} (h : doE S (p : Int) d = none) : runS p S (d :: r) = runS (p + 1) (doS S d) r := by
  rw [runS, h]
theorem runS_snoc : ∀ (ds : List D) (p : Nat) (S : Sc) (d : D), ((runS p S ds).2 ≠ none → runS p S (ds ++ [d]) = runS p S ds) ∧ ((runS p S ds).2 = none → runS p S (ds ++ [d]) = runS (p + ds.length) (runS p S ds).1 [d])
  | [], p, S, d => ⟨fun h => absurd rfl h, fun _ => rfl⟩
  | x :: ds, p, S, d => by
    rw [List.cons_append]
    cases hx : doE S (p : Int) x with
    | some e =>
      rw [runS_some hx, runS_some hx]
      exact ⟨fun _ => rfl, fun h => by cases h⟩
    | none =>
      rw [runS_none hx, runS_none hx, List.length_cons, show p + (ds.length + 1) = p + 1 + ds.length by omega]
      exact runS_snoc ds (p + 1) (doS S x) d
/-- what is asked of deeds that are done one behind another -/
def ROk : Sc → List D → Prop
  | _, [] => True
  | S, d :: r => DeedK d ∧ pl 60 d = true ∧ PutN S.es.length d ∧ (doE S 0 d = none → ROk (doS S d) r)
theorem ROk.snoc : ∀ {ds : List D} {p : Nat} {S : Sc} {d : D}, ROk S ds → pl 60 d = true → DeedK d → ((runS p S ds).2 = none → PutN (runS p S ds).1.es.length d) → ROk S (ds ++ [d])
  | [], p, S, d, _, h0, h1, h => ⟨h1, h0, h rfl, fun _ => trivial⟩
  | x :: ds, p, S, d, ⟨a, b, c, e⟩, h0, h1, h => ⟨a, b, c, fun hx => ROk.snoc (p := p + 1) (e hx) h0 h1 (by rw [runS_none (doE_at hx)] at h; exact h)⟩
theorem ROk.of : ∀ {ds : List D} {S : Sc}, (∀ d ∈ ds, DeedK d ∧ pl 60 d = true ∧ ∀ m, PutN m d) → ROk S ds
  | [], _, _ => trivial
  | d :: r, S, h => ⟨(h d List.mem_cons_self).1, (h d List.mem_cons_self).2.1, (h d List.mem_cons_self).2.2 _, fun _ => ROk.of fun x hx => h x (List.mem_cons_of_mem _ hx)⟩
/-- a scene beside the law's wanted lanes -/
structure Liv (S : Sc) (ws : List Str) : Prop where
  row : RowOk S.ps (S.es, ws, [])
  gs : goalL S.es ws = S.gs
theorem Liv.step {S : Sc} {ws : List Str} {d : D} {p : Int} (h : Liv S ws) (hd : PutN S.es.length d) (he : doE S p d = none) : Liv (doS S d) (aftW ws d) ∧ aftE S.es d = (doS S d).es := by
  obtain ⟨r, e1, e2⟩ := row_step (z := (S.es, ws, [])) h.row rfl rfl h.gs hd he
  have e1 : aftE S.es d = (doS S d).es := e1
  rw [← e1]
  refine ⟨⟨?_, ?_⟩, rfl⟩
  · show RowOk S.ps ((doS S d).es, aftW ws d, [])
    rw [← e1]
    exact ⟨r.nd, r.nm, r.st, r.el, r.wi, r.wd⟩
  · rw [← e1]
    exact e2
theorem Liv.ok {S : Sc} {ws : List Str} (h : Liv S ws) (hp : S.ps.length ≤ 1000) (h1 : S.dl.length ≤ 1000) (h2 : S.al.length ≤ 1000) : ScOk S := by
  have hl : (lnN S.es).length ≤ 14 := by rw [lnN_len]; exact h.row.el
  refine ⟨hp, Nat.le_trans h.row.el (by decide), h.row.nd, ?_, fun x hx => ?_, h1, h2⟩
  · rw [← h.gs]
    exact Nat.le_trans (List.length_filter_le _ _) (Nat.le_trans hl (by decide))
  · rw [← h.gs] at hx
    exact (mem_gl.mp hx).1
theorem deed_of {S : Sc} {p : Int} {d : D} (he : doE S p d = none) : deedF d = true := by
  cases h : deedF d with
  | true => rfl
  | false =>
    unfold doE at he
    rw [if_pos h] at he
    cases he
/-- where nothing is wrong, all deeds are told and done -/
theorem runS_done : ∀ (ds : List D) (p : Nat) (S : Sc), (runS p S ds).2 = none → (runS p S ds).1.dl = S.dl ++ ds ∧ (runS p S ds).1.al.length = S.al.length + ds.length ∧ ∀ d ∈ ds, ∃ ss, d = .tup (stD ss)
  | [], p, S, _ => ⟨(List.append_nil _).symm, rfl, fun _ h => by cases h⟩
  | d :: r, p, S, h => by
    cases hx : doE S (p : Int) d with
    | some e => rw [runS_some hx] at h; cases h
    | none =>
      rw [runS_none hx] at h ⊢
      obtain ⟨a, b, c⟩ := runS_done r (p + 1) (doS S d) h
      refine ⟨?_, ?_, fun y hy => ?_⟩
      · rw [a]
        show (S.dl ++ [d]) ++ r = _
        rw [List.append_assoc]
        rfl
      · rw [b]
        show (S.al ++ [_]).length + r.length = _
        rw [List.length_append, List.length_singleton, List.length_cons]
        omega
      · rcases List.mem_cons.mp hy with rfl | hy
        · rcases deed_words (deed_of hx) with ⟨l, a, b, e⟩ | ⟨k, l, e, _⟩
          · exact ⟨_, e⟩
          · exact ⟨_, e⟩
        · exact c y hy
theorem runS_keep : ∀ (ds : List D) (p : Nat) (S : Sc), (runS p S ds).1.ps = S.ps ∧ (runS p S ds).1.pt = S.pt
  | [], p, S => ⟨rfl, rfl⟩
  | d :: r, p, S => by
    cases hx : doE S (p : Int) d with
    | some e => rw [runS_some hx]; exact ⟨rfl, rfl⟩
    | none => rw [runS_none hx]; exact runS_keep r (p + 1) (doS S d)
def tolO : Option (Str × Str × D) → D
  | some (C, _, x) => .tup [.str C, x]
  | none => .non
theorem doE_plx {S : Sc} {p : Int} {d : D} {C f : Str} {x : D} (h : doE S p d = some (C, f, x)) : (∃ s, x = .int s) ∨ ∃ s, x = .str s := by
  unfold doE at h
  split at h
  · cases h
    exact .inl ⟨_, rfl⟩
  · refine .inr ?_
    split at h
    all_goals repeat' split at h
    all_goals first
      | (cases h; done)
      | (cases h; exact ⟨_, rfl⟩)
theorem doE_clx {S : Sc} {p : Int} {d : D} {C f : Str} {x : D} (h : doE S p d = some (C, f, x)) : (C = "BadDeed" ∧ f = "place") ∨ (f = "name" ∧ (C = "BadName" ∨ C = "NameTaken" ∨ C = "NoPost" ∨ C = "NoLane" ∨ C = "StillWanted" ∨ C = "NotWanted")) := by
  unfold doE at h
  split at h
  · cases h
    exact .inl ⟨rfl, rfl⟩
  · refine .inr ?_
    split at h
    all_goals repeat' split at h
    all_goals first
      | (cases h; done)
      | (cases h; refine ⟨rfl, ?_⟩; simp)
theorem runS_er : ∀ (ds : List D) (p : Nat) (S : Sc) (e : Str × Str × D), (runS p S ds).2 = some e → ∃ (q : Int) (S' : Sc) (d : D), doE S' q d = some e
  | [], p, S, e, h => by cases h
  | d :: r, p, S, e, h => by
    cases hx : doE S (p : Int) d with
    | some e' => rw [runS_some hx] at h; cases h; exact ⟨_, _, _, hx⟩
    | none => rw [runS_none hx] at h; exact runS_er r (p + 1) (doS S d) e h
/-- the posts of the law's net -/
structure PsOk (ps : List Str) : Prop where
  ne : ps ≠ []
  pl : ps.length < 26
  nm : ∀ s ∈ ps, isNm s = true
/-- each deed is a row of texts -/
def DlOk (dl : List D) : Prop := ∀ d ∈ dl, ∃ ss, d = .tup (stD ss)
theorem DlOk.ti {dl : List D} (h : DlOk dl) : tIL dl = true := tIL_all fun d hd => by
  obtain ⟨ss, rfl⟩ := h d hd
  exact tIL_stD ss
theorem DlOk.pl {dl : List D} (h : DlOk dl) : dl.all (pl 60) = true := List.all_eq_true.mpr fun d hd => by
  obtain ⟨ss, rfl⟩ := h d hd
  exact pl_stD ss 59
/-- what comes of deeds done one behind another: cells of the scene, and what is passed -/
def runO (K : PySem.W.Frag) (A : ScA) (S : Sc) (p : Nat) (ds : List D) (kr : Cells) : Oc := match (runS p S ds).2 with
  | some (C, f, x) => Xt (He.ga K C) [(f, x)] (ScC K A (runS p S ds).1 ++ kr)
  | none => Rt .non (ScC K A (runS p S ds).1 ++ kr)
def ct_do_all (K : PySem.W.Frag) : Ct := Ct2 fun s b ka out => ∃ A S ws c ds, s = .val (.adr A.s) ∧ b = .val (.adr c) ∧ Liv S ws ∧ ROk S ds ∧ S.ps.length ≤ 1000 ∧ S.dl.length + ds.length ≤ 1000 ∧ S.al.length + ds.length ≤ 1000 ∧ ka = ScC K A S ++ [(c, .lst ds)] ∧ out = runO K A S 0 ds [(c, .lst ds)]
section
variable {P : Program} {w : World} {K : PySem.W.Frag} {mg : Str → Option Value} {base : Heap}
theorem ok_do_all (T : Tx K mg) (F_do_deed : Fn P w K mg base 8 (He.ga K "do_deed") ["scene", "place", "deed"] (ct_do_deed K)) : Fn P w K mg base 10 (He.ga K "do_all") ["scene", "deeds"] (ct_do_all K) := by
  obtain ⟨fd, F⟩ := T.d_do_all
  refine fn_ok F sc_do_all (fun _ _ _ _ _ _ us hl => match us, hl with | [_, _], _ => rfl) ct2_len (fun cdv A outer s H E hr => ⟨_, (pss_one (ps_for (passes_of rfl) rfl (pi_enum rfl T.n_enumerate (pa_cons (pv 1) pa_nil)) (pg_tup rfl (pgs_cons (pg_name (i := 2) sc_do_all.nd rfl (by first | exact Or.inl rfl | exact Or.inr rfl)) (pgs_cons (pg_name (i := 3) sc_do_all.nd rfl (by first | exact Or.inl rfl | exact Or.inr rfl)) pgs_nil))) (pss_one (ps_expr (pe_call (F_do_deed.up (by decide)).ok hr rfl T.g_do_deed.1 T.g_do_deed.2 (F_do_deed.up (by decide)).bn .nil (pass_own rfl rfl rfl rfl) (pa_cons (pv 0) (pa_cons (pv 2) (pa_cons (pv 3) pa_nil)))))))), fun ws ka out B F0 Q hC hR hX => ?_⟩)
  obtain ⟨s, b, rfl, A, S, ws, c, ds, rfl, rfl, hL, hO, hps, hdl, hal, rfl, rfl⟩ := hC
  refine g_forT (ei_enum (ds := ds) (ev_var rfl) (.ce 7 rfl)) (fun i ro ka => ∃ S' ws', ∃ (v2 v3 : Option W), ro = [some (.val (.adr A.s)), some (.val (.adr c)), v2, v3] ∧ ka = ScC K A S' ++ [(c, .lst ds)] ∧ Liv S' ws' ∧ ROk S' (ds.drop i) ∧ S'.ps = S.ps ∧ S'.dl.length = S.dl.length + i ∧ S'.al.length = S.al.length + i ∧ runS i S' (ds.drop i) = runS 0 S ds) ⟨S, ws, _, _, rfl, rfl, hL, hO, rfl, rfl, rfl, rfl⟩ (fun i ro ka ⟨S', ws', v2, v3, _, e, _⟩ => by rw [e]; exact List.mem_append_right _ List.mem_cons_self) (fun i w ro2 ka2 ta' hw h => ?_) (fun ro2 ka2 ta' h _ => ?_)
  rotate_left
  · obtain ⟨S', ws', v2, v3, e1, e2, h1, h2, h3, h4, h5, h6⟩ := h
    subst e1 e2
    rw [List.length_map, List.length_range, List.drop_length] at h6
    have h6 : (S', none) = runS 0 S ds := h6
    unfold runO at hR
    rw [← h6] at hR
    exact g_end hR ⟨rfl, rfl⟩
  obtain ⟨S', ws', v2, v3, e1, e2, h1, h2, h3, h4, h5, h6⟩ := h
  subst e1 e2
  rw [List.getElem?_map] at hw
  obtain ⟨i', hi', rfl⟩ := Option.map_eq_some_iff.mp hw
  obtain ⟨hi1, hi2⟩ := List.getElem?_eq_some_iff.mp hi'
  rw [List.getElem_range] at hi2
  subst hi2
  rw [List.length_range] at hi1
  have hdr := List.drop_eq_getElem_cons hi1
  have hgd : ds.getD i .non = ds[i] := by rw [List.getD_eq_getElem?_getD, List.getElem?_eq_getElem hi1]; rfl
  rw [hgd]
  rw [hdr] at h2 h6
  generalize ds[i] = d at *
  obtain ⟨hd1, _, hd2, hd3⟩ := h2
  have con : ct_do_deed K [.val (.adr A.s), .val (.int (i : Int)), .val d] (ScC K A S') (doO K A S' (i : Int) d []) := ⟨_, _, _, rfl, A, S', (i : Int), d, rfl, rfl, rfl, hd1, h1.ok (by rw [h3]; exact hps) (by omega) (by omega), rfl, rfl⟩
  unfold doO at con
  refine ⟨_, at_t2, ?_⟩
  cases he : doE S' (i : Int) d with
  | some q =>
    obtain ⟨C, f, x⟩ := q
    rw [runS_some he] at h6
    rw [he] at con
    unfold runO at hX
    rw [← h6] at hX
    exact g_dropP hX (evx_call (k2 := ScC K A S') (kr := [(c, .lst ds)]) (k3 := ScC K A S' ++ []) (ea3 (ev_var rfl) (ev_var rfl) (ev_var rfl)) con rfl) ⟨rfl, by rw [List.append_nil]⟩
  | none =>
    rw [runS_none he] at h6
    rw [he] at con
    have st := (h1.step hd2 he).1
    refine g_drop (ev_callF (k1 := ScC K A S') (k2 := ScC K A (doS S' d) ++ []) [(c, .lst ds)] (ea3 (ev_var rfl) (ev_var rfl) (ev_var rfl)) con fun _ _ z => z) ?_
    rw [List.append_nil]
    exact g_jp ⟨doS S' d, _, _, _, rfl, rfl, st, hd3 (doE_at he), h3, (by show (S'.dl ++ [d]).length = _; rw [List.length_append, List.length_singleton]; omega), (by show (S'.al ++ [_]).length = _; rw [List.length_append, List.length_singleton]; omega), h6⟩
end
theorem perm_seg {α : Type} (N M : List α) (x : α) : (N ++ M ++ [x]).Perm (M ++ (N ++ [x])) := by
  rw [← List.append_assoc]
  exact List.Perm.append_right _ List.perm_append_comm
def ct_Watch___init (K : PySem.W.Frag) : Ct := Ct3 fun s b c ka out => ∃ a ps es ws t, s = .val (.adr a) ∧ b = .val (NetD K ps es) ∧ Lk [] c t (stD ws) false ∧ (∀ x ∈ ws, x ∈ lnN es) ∧ ps.length ≤ 50000 ∧ es.length ≤ 50000 ∧ (lnN es).Nodup ∧ ka = [(a, .ins (He.ga K "Watch") [])] ∧ out = fun o' k => ∃ A, o' = .ret .non ∧ k = WaC K a A ⟨ps, es, goalL es ws, [], [], []⟩
section
variable {P : Program} {w : World} {K : PySem.W.Frag} {mg : Str → Option Value} {base : Heap}
theorem ok_Watch___init (T : Tx K mg) (F_Net_copy : Fn P w K mg base 6 (He.ma K (He.ga K "Net") "copy") ["self"] (ct_Net_copy K)) (F_Scene___init : Fn P w K mg base 4 (He.ma K (He.ga K "Scene") "__init__") ["self", "base", "goal"] (ct_Scene___init K)) (F_in_net_order : Fn P w K mg base 6 (He.ga K "in_net_order") ["net", "lanes"] (ct_in_net_order K)) : FnE P w K mg base 8 (He.ma K (He.ga K "Watch") "__init__") ["self", "net", "wanted"] [.ref (He.dflAt ("Watch", some "__init__") 0 K)] (ct_Watch___init K) := by
  obtain ⟨fd, F⟩ := T.d_Watch___init
  refine fn_okE F sc_Watch___init (F.binds1 2 0 (by simp) rfl fun _ _ _ _ _ _ _ us its hu hi => match us, its, hu, hi with | [_, _], [_], _, _ => ⟨_, rfl, rfl⟩) (F.binds1 3 1 (by simp) rfl fun _ _ _ _ _ _ _ us its hu hi => match us, its, hu, hi with | [_, _, _], [_], _, _ => ⟨_, rfl, rfl⟩) ct3_len (fun cdv A outer s H E hr => ⟨_, (pss_one (ps_fld (pv 0) (pe_make T.mk_Scene (F_Scene___init.up (by decide)).ok hr rfl T.g_Scene.1 (F_Scene___init.up (by decide)).bn .nil (pass_own rfl rfl rfl rfl) (pa_cons (pe_meth0 (pv 1) T.cl_Net T.me_Net_copy (F_Net_copy.up (by decide)).ok hr (F_Net_copy.up (by decide)).bn .nil (pass_own rfl rfl rfl rfl)) (pa_cons (pe_call (F_in_net_order.up (by decide)).ok hr rfl T.g_in_net_order.1 T.g_in_net_order.2 (F_in_net_order.up (by decide)).bn .nil (pass_own rfl rfl rfl rfl) (pa_cons (pv 1) (pa_cons (pv 2) pa_nil))) pa_nil))) rfl)), fun ws ka out B F0 Q hC hR hX => ?_⟩)
  obtain ⟨s, b, c, rfl, a, ps, es, ws, t, rfl, rfl, lw, hws, hl, hel, hn, rfl, rfl⟩ := hC
  have e0 : inoO K es ws = Rt (.tup (stD (goalL es ws))) [] := by
    unfold inoO
    rw [List.find?_eq_none.mpr fun y hy => by rw [decide_eq_true (hws y hy)]; decide]
  have ino : ct_in_net_order K [.val (NetD K ps es), c] [] (Rt (.tup (stD (goalL es ws))) []) := ⟨_, _, rfl, ps, es, ws, t, rfl, lw, hel, rfl, e0.symm⟩
  refine g_fldR (C := He.ga K "Watch") (a := a) (evr_makeAR (P2 := fun w k => ∃ A : ScA, w = .val (.adr A.s) ∧ k = [(A.s, .ins (He.ga K "Scene") [("base", .adr A.n), ("goal", .tup (stD (goalL es ws))), ("deeds", .adr A.l), ("ahead", .adr A.h), ("pattern_by_name", .adr A.d)]), (A.l, .lst []), (A.h, .lst []), (A.d, .dic [])] ++ (NetC K A.n A.o A.e ps es ++ [(a, .ins (He.ga K "Watch") [])])) (ear_cons (P := fun w k => ∃ n o d, w = .val (.adr n) ∧ k = NetC K n o d ps es ++ [(a, .ins (He.ga K "Watch") [])]) (R := fun w ws' k => ∃ n o d, w = .val (.adr n) ∧ ws' = [.val (.tup (stD (goalL es ws)))] ∧ k = NetC K n o d ps es ++ [(a, .ins (He.ga K "Watch") [])]) (EvR.imp (evr_meth (k1 := [(a, .ins (He.ga K "Watch") [])]) (k2 := []) [(a, .ins (He.ga K "Watch") [])] (ev_var rfl) .v rfl ea_nil ⟨_, rfl, ps, es, rfl, hl, hel, hn, rfl, rfl⟩ (fun o k ⟨n, o2, d, e, _⟩ => ⟨_, e⟩)) fun w k h => ?im) (fun w k ⟨n, o, d2, e1, e2⟩ => EvAR.imp (ear_cD (ev_callP (ea2 (ev_var rfl) (ev_var rfl)) ino) ear_nil) fun ws k' ⟨ws', h1, h2, h3⟩ => ⟨n, o, d2, e1, by rw [h1, h2], by rw [h3, e2]⟩)) (fun ws' k h a' => ?mk)) T.cl_Watch T.na_Watch_scene (fun w k ⟨A, e1, e2⟩ => ⟨.adr A.s, k, 7, [], e1, ev_var rfl, by rw [e2]; rfl, by decide, ?_⟩)
  case im =>
    obtain ⟨d', k3, ⟨n, o, d2, e1, e2⟩, e3, e4⟩ := h
    cases e1
    exact ⟨n, o, d2, e3, by rw [e4, e2]⟩
  case mk =>
    obtain ⟨w, ws'', h1, n, o, d2, h2, h3, h4⟩ := h
    subst h1 h2 h3 h4
    exact ⟨[], _, _, List.Perm.refl _, ⟨_, _, _, rfl, a', n, goalL es ws, rfl, rfl, rfl, rfl, rfl⟩, fun o' k' ⟨l, h, d, e1, e2⟩ => ⟨e1, ⟨a', n, o, d2, l, h, d⟩, rfl, by rw [e2]; rfl⟩⟩
  subst e2
  refine Gp.perm (k1 := WaC K a A ⟨ps, es, goalL es ws, [], [], []⟩) (g_end hR ⟨A, rfl, rfl⟩) ?_
  exact (perm_seg (NetC K A.n A.o A.e ps es) (ScR K A ⟨ps, es, goalL es ws, [], [], []⟩) (a, Nd.ins (He.ga K "Watch") [("scene", .adr A.s)]) :)
end
def ct_Watch_net (K : PySem.W.Frag) : Ct := Ct1 fun s ka out => ∃ S, s = .val (WaD K S) ∧ S.ps.length ≤ 50000 ∧ S.es.length ≤ 50000 ∧ (lnN S.es).Nodup ∧ ka = [] ∧ out = fun o' k => ∃ a o d, o' = .ret (.adr a) ∧ k = NetC K a o d S.ps S.es
section
variable {P : Program} {w : World} {K : PySem.W.Frag} {mg : Str → Option Value} {base : Heap}
theorem ok_Watch_net (T : Tx K mg) (F_Net_copy : Fn P w K mg base 6 (He.ma K (He.ga K "Net") "copy") ["self"] (ct_Net_copy K)) : Fn P w K mg base 8 (pga K (He.ga K "Watch") "net") ["self"] (ct_Watch_net K) := by
  obtain ⟨fd, F⟩ := T.d_Watch_net
  refine fn_ok F sc_Watch_net (fun _ _ _ _ _ _ us hl => match us, hl with | [_], _ => rfl) ct1_len (fun cdv A outer s H E hr => ⟨_, (pss_one (ps_ret (pe_meth0 (pe_fld (pe_fld (pv 0) rfl) rfl) T.cl_Net T.me_Net_copy (F_Net_copy.up (by decide)).ok hr (F_Net_copy.up (by decide)).bn .nil (pass_own rfl rfl rfl rfl)))), fun ws ka out B F0 Q hC hR hX => ?_⟩)
  obtain ⟨s, rfl, S, rfl, hl, hel, hn, rfl, rfl⟩ := hC
  exact g_retE (Q := fun w k => ∃ a o d, w = .val (.adr a) ∧ k = NetC K a o d S.ps S.es) hR (EvR.imp (evr_meth (k1 := []) (k2 := []) [] (ev_fld (ev_fld (ev_var rfl) .v T.cl_Watch T.na_Watch_scene rfl) .v T.cl_Scene T.na_Scene_base rfl) .v rfl ea_nil ⟨_, rfl, S.ps, S.es, rfl, hl, hel, hn, rfl, rfl⟩ (fun o k ⟨n, o2, d, e, _⟩ => ⟨_, e⟩)) fun w k ⟨d, k3, ⟨a, o, d2, e1, e2⟩, e3, e4⟩ => by
    cases e1
    exact ⟨a, o, d2, e3, by rw [e4, e2, List.append_nil]⟩) (fun w k ⟨a, o, d, e1, e2⟩ => ⟨.adr a, e1, a, o, d, rfl, e2⟩)
end
def ct_Watch_wanted (K : PySem.W.Frag) : Ct := Ct1 fun s ka out => ∃ S, s = .val (WaD K S) ∧ ka = [] ∧ out = Rt (.tup (stD S.gs)) []
section
variable {P : Program} {w : World} {K : PySem.W.Frag} {mg : Str → Option Value} {base : Heap}
theorem ok_Watch_wanted (T : Tx K mg) : Fn P w K mg base 4 (pga K (He.ga K "Watch") "wanted") ["self"] (ct_Watch_wanted K) := by
  obtain ⟨fd, F⟩ := T.d_Watch_wanted
  refine fn_ok F sc_Watch_wanted (fun _ _ _ _ _ _ us hl => match us, hl with | [_], _ => rfl) ct1_len (fun cdv A outer s H E hr => ⟨_, (pss_one (ps_ret (pe_fld (pe_fld (pv 0) rfl) rfl))), fun ws ka out B F0 Q hC hR hX => ?_⟩)
  obtain ⟨s, rfl, S, rfl, rfl, rfl⟩ := hC
  exact g_ret hR (ev_fld (ev_fld (ev_var rfl) .v T.cl_Watch T.na_Watch_scene rfl) .v T.cl_Scene T.na_Scene_goal rfl) ⟨rfl, rfl⟩
end
def ct_Watch_told (K : PySem.W.Frag) : Ct := Ct1 fun s ka out => ∃ S, s = .val (WaD K S) ∧ ka = [] ∧ out = fun o k => ∃ c, o = .ret (.adr c) ∧ k = [(c, .lst S.dl)]
section
variable {P : Program} {w : World} {K : PySem.W.Frag} {mg : Str → Option Value} {base : Heap}
theorem ok_Watch_told (T : Tx K mg) : Fn P w K mg base 4 (He.ma K (He.ga K "Watch") "told") ["self"] (ct_Watch_told K) := by
  obtain ⟨fd, F⟩ := T.d_Watch_told
  refine fn_ok F sc_Watch_told (fun _ _ _ _ _ _ us hl => match us, hl with | [_], _ => rfl) ct1_len (fun cdv A outer s H E hr => ⟨_, (pss_one (ps_ret (pe_callTy call_lstU rfl T.n_list (by decide +kernel) (pa_cons (pe_fld (pe_fld (pv 0) rfl) rfl) pa_nil)))), fun ws ka out B F0 Q hC hR hX => ?_⟩)
  obtain ⟨s, rfl, S, rfl, rfl, rfl⟩ := hC
  exact g_retE (Q := fun w k => ∃ c, w = .val (.adr c) ∧ k = [(c, .lst S.dl)]) hR (EvR.imp (evn_cb (ea1 (ev_fld (ev_fld (ev_var rfl) .v T.cl_Watch T.na_Watch_scene rfl) .v T.cl_Scene T.na_Scene_deeds rfl)) (rcn_lst .vl (.inl rfl))).toR fun w k ⟨c, e1, e2⟩ => ⟨c, e1, by rw [e2]; rfl⟩) (fun w k ⟨c, e1, e2⟩ => ⟨.adr c, e1, c, rfl, e2⟩)
end
def ct_Watch___iadd (K : PySem.W.Frag) : Ct := Ct2 fun s b ka out => ∃ w A S ws c ds, s = .val (.adr w) ∧ b = .val (.adr c) ∧ Liv S ws ∧ ROk S ds ∧ S.ps.length ≤ 1000 ∧ S.dl.length + ds.length ≤ 1000 ∧ S.al.length + ds.length ≤ 1000 ∧ S.pt = [] ∧ ka = WaC K w A S ++ [(c, .lst ds)] ∧ out = match (runS 0 S ds).2 with
  | some (C, f, x) => Xt (He.ga K C) [(f, x)] (WaC K w A S ++ [(c, .lst ds)])
  | none => fun o k => ∃ A', o = .ret (.adr w) ∧ k = WaC K w A' (runS 0 S ds).1 ++ [(c, .lst ds)]
section
variable {P : Program} {w : World} {K : PySem.W.Frag} {mg : Str → Option Value} {base : Heap}
theorem ok_Watch___iadd (T : Tx K mg) (F_same_scene : Fn P w K mg base 8 (He.ga K "same_scene") ["scene"] (ct_same_scene K)) (F_do_all : Fn P w K mg base 10 (He.ga K "do_all") ["scene", "deeds"] (ct_do_all K)) : Fn P w K mg base 12 (He.ma K (He.ga K "Watch") "__iadd__") ["self", "deeds"] (ct_Watch___iadd K) := by
  obtain ⟨fd, F⟩ := T.d_Watch___iadd
  refine fn_ok F sc_Watch___iadd (fun _ _ _ _ _ _ us hl => match us, hl with | [_, _], _ => rfl) ct2_len (fun cdv A outer s H E hr => ⟨_, (pss_cons (ps_set (i := 2) sc_Watch___iadd.nd rfl (by first | exact Or.inl rfl | exact Or.inr rfl) (pe_call (F_same_scene.up (by decide)).ok hr rfl T.g_same_scene.1 T.g_same_scene.2 (F_same_scene.up (by decide)).bn .nil (pass_own rfl rfl rfl rfl) (pa_cons (pe_fld (pv 0) rfl) pa_nil)))
      (pss_cons (ps_expr (pe_call (F_do_all.up (by decide)).ok hr rfl T.g_do_all.1 T.g_do_all.2 (F_do_all.up (by decide)).bn .nil (pass_own rfl rfl rfl rfl) (pa_cons (pv 2) (pa_cons (pv 1) pa_nil))))
      (pss_cons (ps_fld (pv 0) (pv 2) rfl)
      (pss_one (ps_ret (pv 0)))))), fun ws ka out B F0 Q hC hR hX => ?_⟩)
  obtain ⟨s, b, rfl, w, A, S, ws, c, ds, rfl, rfl, hL, hO, hps, hdl, hal, hpt, rfl, rfl⟩ := hC
  refine Gp.perm (k1 := ScC K A S ++ [(w, Nd.ins (He.ga K "Watch") [("scene", .adr A.s)]), (c, .lst ds)]) ?_ (List.Perm.of_eq (by unfold WaC; rw [List.append_assoc]; rfl))
  refine q_asgR (evr_call (k1 := ScC K A S) [(w, Nd.ins (He.ga K "Watch") [("scene", .adr A.s)]), (c, .lst ds)] (ea1 (ev_fld (C := He.ga K "Watch") (ev_var rfl) (.c 7 rfl) T.cl_Watch T.na_Watch_scene rfl)) ⟨_, rfl, A, S, rfl, hps, Nat.le_trans hL.row.el (by decide), hL.row.nd, hpt, rfl, rfl⟩ (fun o k ⟨A', h, _⟩ => ⟨_, h⟩)) (fun v k1 h => ?_)
  obtain ⟨d, k2, ⟨A', e1, e2⟩, e3, e4⟩ := h
  cases e1
  subst e2 e3 e4
  have con : ct_do_all K [.val (.adr A'.s), .val (.adr c)] (ScC K A' S ++ [(c, .lst ds)]) (runO K A' S 0 ds [(c, .lst ds)]) := ⟨_, _, rfl, A', S, ws, c, ds, rfl, rfl, hL, hO, hps, hdl, hal, rfl, rfl⟩
  refine Gp.perm (k1 := (ScC K A' S ++ [(c, .lst ds)]) ++ (ScC K A S ++ [(w, Nd.ins (He.ga K "Watch") [("scene", .adr A.s)])])) ?_ ?pm
  case pm =>
    rw [List.append_assoc, List.append_assoc]
    refine List.Perm.append_left _ ?_
    have h : ([(c, Nd.lst ds)] ++ (ScC K A S ++ [(w, Nd.ins (He.ga K "Watch") [("scene", .adr A.s)])])).Perm ((ScC K A S ++ [(w, Nd.ins (He.ga K "Watch") [("scene", .adr A.s)])]) ++ [(c, Nd.lst ds)]) := List.perm_append_comm
    rw [List.append_assoc] at h
    exact h
  unfold runO at con
  cases he : (runS 0 S ds).2 with
  | some q =>
    obtain ⟨C, f, x⟩ := q
    rw [he] at con hX
    refine q_dropP hX (EvX.less (k2 := (ScC K A' (runS 0 S ds).1 ++ [(c, .lst ds)]) ++ (ScC K A S ++ [(w, Nd.ins (He.ga K "Watch") [("scene", .adr A.s)])])) (k3 := [(c, .lst ds)] ++ WaC K w A S) (evx_call (k2 := ScC K A' S ++ [(c, .lst ds)]) (kr := ScC K A S ++ [(w, Nd.ins (He.ga K "Watch") [("scene", .adr A.s)])]) (ea2 (ev_var rfl) (ev_var rfl)) con rfl) ?_ |>.pm (List.Perm.refl _) List.perm_append_comm) ⟨rfl, rfl⟩
    exact (List.sublist_append_right _ _).append (List.Sublist.refl _)
  | none =>
    rw [he] at con hR
    refine q_drop (ev_callF (k1 := ScC K A' S ++ [(c, .lst ds)]) (ScC K A S ++ [(w, Nd.ins (He.ga K "Watch") [("scene", .adr A.s)])]) (ea2 (ev_var rfl) (ev_var rfl)) con fun _ _ z => z) ?_
    refine q_fld (C := He.ga K "Watch") (a := w) (j := 15) (fs := [("scene", .adr A.s)]) (ev_var rfl) (ev_var rfl) rfl T.cl_Watch T.na_Watch_scene (show 1 < 900 by decide) ?_
    refine Gp.less (k1 := ScC K A' (runS 0 S ds).1 ++ [(c, Nd.lst ds)] ++ [(w, Nd.ins (He.ga K "Watch") [("scene", .adr A'.s)])]) ?_ ?sub
    case sub =>
      show List.Sublist (ScC K A' (runS 0 S ds).1 ++ [(c, Nd.lst ds)] ++ [(w, Nd.ins (He.ga K "Watch") [("scene", .adr A'.s)])]) ((ScC K A' (runS 0 S ds).1 ++ [(c, Nd.lst ds)]) ++ (ScC K A S ++ [(w, Nd.ins (He.ga K "Watch") [("scene", .adr A'.s)])]))
      exact (List.Sublist.refl _).append (List.sublist_append_right _ _)
    refine Gp.perm (k1 := WaC K w A' (runS 0 S ds).1 ++ [(c, Nd.lst ds)]) (g_ret hR (ev_var rfl) ⟨A', rfl, rfl⟩) ?_
    unfold WaC
    rw [List.append_assoc, List.append_assoc]
    exact List.Perm.append_left _ (.swap _ _ _)
end
theorem ev_lenK {K : PySem.W.Frag} {ro : Ro} {ka k1 : Cells} {te : TE} {p : Addr} {ns : List Int} (h : EvD K te ro ka (.val (.adr p)) k1) (hk : ∀ H, SqL K H p (ns.map V.int)) : EvD K (tCB (rLenU K) (tCons te tNil)) ro ka (.val (.int ns.length)) k1 := fun B F0 ta sg H Q e q => h B F0 ta sg H _ e fun v H1 e1 => .inl ⟨p, ns.map V.int, by rw [e1.tm_adr List.mem_cons_self], .inl (hk H1), by
  rw [List.length_map]
  exact q _ _ (e1.pop.push_imm fun _ => rfl)⟩
theorem ev_ixK {K : PySem.W.Frag} {ro : Ro} {ka k1 k2 : Cells} {te tf : TE} {p : Addr} {ns : List Int} {i : Nat} {z : Int} (h : EvD K te ro ka (.val (.adr p)) k1) (h2 : EvD K tf ro k1 (.val (.int i)) k2) (hk : ∀ H, SqL K H p (ns.map V.int)) (hz : ns[i]? = some z) : EvD K (tOp (rIx K) te tf) ro ka (.val (.int z)) k2 := ev_op h h2 fun B F0 ro ta sg H u v Q e h1 h2 q =>
  .inl ⟨p, ns.map V.int, i, .int z, e.tm_adr h1, e.tm_int h2, hk H, atI_nat (by rw [List.getElem?_map, hz]; rfl), q _ _ (e.push_imm fun _ => rfl)⟩
def ct_law_cell (K : PySem.W.Frag) : Ct := Ct2 fun a b ka out => ∃ ns, ∃ k : Nat, Scr K a ns ∧ b = .val (.int k) ∧ ka = [] ∧ out = Rt (.int (ns.getD k 0)) []
section
variable {P : Program} {w : World} {K : PySem.W.Frag} {mg : Str → Option Value} {base : Heap}
theorem ok_law_cell (T : Tx K mg) : Fn P w K mg base 4 (He.ga K "_law_cell") ["_law_script", "_law_k"] (ct_law_cell K) := by
  obtain ⟨fd, F⟩ := T.d_law_cell
  refine fn_ok F sc_law_cell (fun _ _ _ _ _ _ us hl => match us, hl with | [_, _], _ => rfl) ct2_len (fun cdv A outer s H E hr => ⟨_, (pss_cons (ps_if (pt_cmpR op_lt (pv 1) (pe_callB call_lenU rfl T.n_len (by decide +kernel) (pa_cons (pv 0) pa_nil)) (nomark _))
      (pss_one (ps_ret (pe_ix ix_seq (pv 0) (pv 1) fun _ _ => rfl)))
      pss_nil)
      (pss_one (ps_ret pe_int))), fun ws ka out B F0 Q hC hR hX => ?_⟩)
  obtain ⟨a, b, rfl, ns, k, hs, rfl, rfl, rfl⟩ := hC
  have out0 : ¬ k < ns.length → ns.getD k 0 = 0 := fun h => by
    rw [List.getD_eq_getElem?_getD, List.getElem?_eq_none (by omega)]
    rfl
  have in0 : k < ns.length → ns[k]? = some (ns.getD k 0) := fun h => by
    rw [List.getD_eq_getElem?_getD, List.getElem?_eq_getElem h]
    rfl
  rcases hs with rfl | ⟨p, rfl, hk⟩
  · have hl : (inD ns).length = ns.length := List.length_map ..
    refine q_when (et_test (ev_lt (ev_var rfl) (ev_len (ev_var rfl) .vl))) (fun hb => g_ret hR (ev_ixV (d := .int (ns.getD k 0)) (ev_var rfl) (ev_var rfl) .vl (atI_nat ?_)) ⟨rfl, rfl⟩) (fun hb => g_ret hR ev_int ⟨?_, rfl⟩)
    · rw [decide_eq_true_eq, hl] at hb
      unfold inD
      rw [List.getElem?_map, in0 (by omega)]
      rfl
    · rw [decide_eq_false_iff_not, hl] at hb
      rw [out0 (by omega)]
  · refine q_when (et_test (ev_lt (ev_var rfl) (ev_lenK (ev_var rfl) hk))) (fun hb => g_ret hR (ev_ixK (ev_var rfl) (ev_var rfl) hk (in0 ?_)) ⟨rfl, rfl⟩) (fun hb => g_ret hR ev_int ⟨?_, rfl⟩)
    · rw [decide_eq_true_eq] at hb
      omega
    · rw [decide_eq_false_iff_not] at hb
      rw [out0 (by omega)]
end
def ct_law_pool (K : PySem.W.Frag) : Ct := Ct1 fun a ka out => ∃ z, a = .val (.int z) ∧ ka = [] ∧ out = Nt (.lst (plOf z).ds) []
section
variable {P : Program} {w : World} {K : PySem.W.Frag} {mg : Str → Option Value} {base : Heap}
theorem ok_law_pool (T : Tx K mg) : Fn P w K mg base 4 (He.ga K "_law_pool") ["_law_cell_here"] (ct_law_pool K) := by
  obtain ⟨fd, F⟩ := T.d_law_pool
  refine fn_ok F sc_law_pool (fun _ _ _ _ _ _ us hl => match us, hl with | [_], _ => rfl) ct1_len (fun cdv A outer s H E hr => ⟨_, (pss_cons (ps_set (i := 1) sc_law_pool.nd rfl (by first | exact Or.inl rfl | exact Or.inr rfl) (pe_op op_mulU pe_int (pv 0)))
      (pss_cons (ps_if (pt_cmpR op_lt (pv 0) pe_int (nomark _))
      (pss_one (ps_set (i := 1) sc_law_pool.nd rfl (by first | exact Or.inl rfl | exact Or.inr rfl) (pe_op op_sub (pe_op op_sub pe_int (pe_op op_mulU pe_int (pv 0))) pe_int)))
      pss_nil)
      (pss_cons (ps_if (pt_cmpR op_ge (pv 1) (pe_op op_pow pe_int pe_int) (nomark _))
      (pss_one (ps_ret (pe_lst (pa_cons (pv 1) (pa_cons (pe_op op_mod (pe_callTy call_intU rfl T.n_int (by decide +kernel) (pa_cons (pv 1) pa_nil)) pe_int) (pa_cons pe_int pa_nil))))))
      pss_nil)
      (pss_one (ps_ret (pe_lst (pa_cons pe_int (pa_cons (pe_op op_mod (pe_callTy call_intU rfl T.n_int (by decide +kernel) (pa_cons (pv 1) pa_nil)) pe_int) (pa_cons pe_int pa_nil))))))))), fun ws ka out B F0 Q hC hR hX => ?_⟩)
  obtain ⟨a, rfl, z, rfl, rfl, rfl⟩ := hC
  refine q_asg (ev_mulL ev_int (ev_var rfl)) ?_
  refine q_whenI (fun ro ka => ro = [some (.val (.int z)), some (.val (.int (fldZ z)))] ∧ ka = []) (et_test (ev_lt (ev_var rfl) ev_int)) (fun hb nx k => g_asg (ev_subI (ev_subI ev_int (ev_mulL ev_int (ev_var rfl))) ev_int) (k _ _ ⟨?_, rfl⟩)) (fun hb => ⟨?_, rfl⟩) ?_
  · rw [decide_eq_true_eq] at hb
    unfold fldZ
    rw [if_pos hb]
    rfl
  · rw [decide_eq_false_iff_not] at hb
    unfold fldZ
    rw [if_neg hb]
    rfl
  · rintro ro2 ka2 ⟨rfl, rfl⟩
    refine q_when (et_test (ev_ge (ev_var rfl) (ev_powI ev_int ev_int ⟨by decide, by decide, by decide⟩))) (fun hb => g_retC hR (evn_lst (ds := (plOf z).ds) (ea3 (ev_var rfl) (ev_modI (ev_int1 (ev_var rfl)) ev_int (by decide)) ev_int |>.to ?_) (show 3 ≤ 100000 by decide)) (fun a => ⟨a, rfl, rfl⟩)) (fun hb => g_retC hR (evn_lst (ds := (plOf z).ds) (ea3 ev_int (ev_modI (ev_int1 (ev_var rfl)) ev_int (by decide)) ev_int |>.to ?_) (show 3 ≤ 100000 by decide)) (fun a => ⟨a, rfl, rfl⟩))
    · rw [decide_eq_true_eq] at hb
      have hb : fldZ z ≥ 10 ^ 18 := hb
      unfold plOf
      rw [if_pos hb]
      rfl
    · rw [decide_eq_false_iff_not] at hb
      have hb : ¬ fldZ z ≥ 10 ^ 18 := hb
      unfold plOf
      rw [if_neg hb]
      rfl
end
def ct_law_take (K : PySem.W.Frag) : Ct := Ct2 fun s b ka out => ∃ a p m, s = .val (.adr a) ∧ b = .val (.int m) ∧ ka = [(a, .lst (Pl.ds p))] ∧ p.Ok 1000000 ∧ 0 < m ∧ m ≤ 100000000 ∧ out = Rt (.int (tk p m).1) [(a, .lst (tk p m).2.ds)]
/-- a draw from the pool that is the first cell -/
theorem ev_take {K : PySem.W.Frag} {ro : Ro} {ka kr : Cells} {te tf : TE} {a : Addr} {p : Pl} {m : Int} {E : XK} {k1 : Cells} (h : EvD K te ro ka (.val (.adr a)) k1) (h2 : EvD K tf ro k1 (.val (.int m)) ((a, .lst p.ds) :: kr)) (hp : p.Ok 1000000) (h0 : 0 < m) (h1 : m ≤ 100000000) :
    EvD K (tCall (spC K (ct_law_take K)) [] E (tCons te (tCons tf tNil))) ro ka (.val (.int (tk p m).1)) ((a, .lst (tk p m).2.ds) :: kr) := ev_call1 (ea2 h h2) ⟨_, _, rfl, a, p, m, rfl, rfl, rfl, hp, h0, h1, rfl⟩
/-- a thing drawn out of texts, the pool behind it -/
def drawS (p : Pl) (ss : List Str) : Str := ss.getD (tk p ((stD ss).length : Nat)).1.toNat ""
def drawP (p : Pl) (ss : List Str) : Pl := (tk p ((stD ss).length : Nat)).2
theorem draw_lt {ss : List Str} (h : ss ≠ []) (p : Pl) : (0 : Int) < ((stD ss).length : Nat) ∧ 0 ≤ (tk p ((stD ss).length : Nat)).1 ∧ (tk p ((stD ss).length : Nat)).1.toNat < ss.length := by
  have hp := List.length_pos_iff.mpr h
  have hL : (0 : Int) < ((stD ss).length : Nat) := by rw [stD_len]; omega
  have t1 := tk_lt p hL
  refine ⟨hL, t1.1, ?_⟩
  have h1 := t1.1
  have h2 := t1.2
  rw [stD_len] at h1 h2 ⊢
  omega
theorem draw_eq {ss : List Str} (h : ss ≠ []) (p : Pl) : ss[(tk p ((stD ss).length : Nat)).1.toNat]? = some (drawS p ss) := by
  unfold drawS
  rw [List.getD_eq_getElem?_getD, List.getElem?_eq_getElem (draw_lt h p).2.2]
  rfl
theorem drawS_mem {ss : List Str} (h : ss ≠ []) (p : Pl) : drawS p ss ∈ ss := List.mem_of_getElem? (draw_eq h p)
theorem drawP_ok {ss : List Str} {p : Pl} {n : Int} (hp : p.Ok n) (h : ss ≠ []) : (drawP p ss).Ok (n + 1) := tk_ok hp (draw_lt h p).1
theorem ev_draw {K : PySem.W.Frag} {ro : Ro} {ka kr k0 k1 : Cells} {te tp tl : TE} {a : Addr} {p : Pl} {ss : List Str} {E : XK} (h1 : EvD K te ro ka (.val (.lst (stD ss))) k0) (h2 : EvD K tp ro k0 (.val (.adr a)) k1) (h3 : EvD K tl ro k1 (.val (.lst (stD ss))) ((a, .lst p.ds) :: kr)) (hp : p.Ok 1000000) (h : ss ≠ []) (hl : ss.length ≤ 100000) :
    EvD K (tOp (rIx K) te (tCall (spC K (ct_law_take K)) [] E (tCons tp (tCons (tCB (rLenU K) (tCons tl tNil)) tNil)))) ro ka (.val (.str (drawS p ss))) ((a, .lst (drawP p ss).ds) :: kr) :=
  ev_ixV h1 (ev_take h2 (ev_len h3 .vl) hp (draw_lt h p).1 (by rw [stD_len]; omega)) .vl (atZ (draw_lt h p).2.1 (stD_get (draw_eq h p)))
section
variable {P : Program} {w : World} {K : PySem.W.Frag} {mg : Str → Option Value} {base : Heap}
theorem ok_law_take (T : Tx K mg) : Fn P w K mg base 4 (He.ga K "_law_take") ["_law_pool_here", "_law_many_here"] (ct_law_take K) := by
  obtain ⟨fd, F⟩ := T.d_law_take
  refine fn_ok F sc_law_take (fun _ _ _ _ _ _ us hl => match us, hl with | [_, _], _ => rfl) ct2_len (fun cdv A outer s H E hr => ⟨_, (pss_cons (ps_if (pt_cmpR op_gt (pe_ix ix_seq (pv 0) pe_int fun _ _ => rfl) pe_int (nomark _))
      (pss_cons (ps_set (i := 2) sc_law_take.nd rfl (by first | exact Or.inl rfl | exact Or.inr rfl) (pe_op op_mod (pe_callTy call_intU rfl T.n_int (by decide +kernel) (pa_cons (pe_ix ix_seq (pv 0) pe_int fun _ _ => rfl) pa_nil)) (pv 1)))
      (pss_cons (ps_asg (pe_op op_fdiv (pe_ix ix_seq (pv 0) pe_int fun _ _ => rfl) (pv 1)) (pg_sub (pv 0) pe_int set_list))
      (pss_one (ps_ret (pv 2)))))
      pss_nil)
      (pss_cons (ps_asg (pe_op op_addU (pe_ix ix_seq (pv 0) pe_int fun _ _ => rfl) pe_int) (pg_sub (pv 0) pe_int set_list))
      (pss_cons (ps_set (i := 3) sc_law_take.nd rfl (by first | exact Or.inl rfl | exact Or.inr rfl) (pe_op op_mod (pe_callTy call_intU rfl T.n_int (by decide +kernel) (pa_cons (pe_op op_pow (pe_op op_addU (pe_op op_addU (pe_ix ix_seq (pv 0) pe_int fun _ _ => rfl) (pe_op op_mulU pe_int (pe_ix ix_seq (pv 0) pe_int fun _ _ => rfl))) pe_int) pe_int) pa_nil)) pe_int))
      (pss_one (ps_ret (pe_op op_mod (pe_op op_mod (pe_callTy call_intU rfl T.n_int (by decide +kernel) (pa_cons (pe_op op_mulU (pe_op op_addU (pv 3) (pe_ix ix_seq (pv 0) pe_int fun _ _ => rfl)) pe_int) pa_nil)) pe_int) (pv 1))))))), fun ws ka out B F0 Q hC hR hX => ?_⟩)
  obtain ⟨s1, b, rfl, a, p, m, rfl, rfl, rfl, hp, h0, h1, rfl⟩ := hC
  obtain ⟨p1, p2, p3, p4, p5⟩ := hp
  have i2 : atI (Pl.ds p) 2 = some (.int p.c) := atI_nat (j := 2) rfl
  have i1 : atI (Pl.ds p) 1 = some (.int p.b) := atI_nat (j := 1) rfl
  refine q_when (et_test (ev_gt (ev_ixV (ev_var rfl) ev_int (.ce 0 rfl) at0) ev_int)) (fun hb => ?_) (fun hb => ?_)
  · rw [decide_eq_true_eq] at hb
    refine q_asg (ev_modI (ev_int1 (ev_ixV (ev_var rfl) ev_int (.ce 0 rfl) at0)) (ev_var rfl) h0) ?_
    refine q_seti (j := 0) (ix := 0) (ev_divI (ev_ixV (ev_var rfl) ev_int (.ce 0 rfl) at0) (ev_var rfl) ⟨h0, by omega⟩) (ev_var rfl) ev_int rfl rfl ?_
    refine g_ret hR (ev_var rfl) ?_
    unfold tk
    rw [if_pos hb]
    exact ⟨rfl, rfl⟩
  · rw [decide_eq_false_iff_not] at hb
    refine q_seti (j := 0) (ix := 2) (ev_addI (ev_ixV (ev_var rfl) ev_int (.ce 0 rfl) i2) ev_int) (ev_var rfl) ev_int rfl rfl ?_
    refine q_asg (ev_modI (ev_int1 (ev_powI (i := p.b + 7919 * (p.c + 1) + 104729) (ev_addI (ev_addI (ev_ixV (ev_var rfl) ev_int (.ce 0 rfl) (atI_nat (j := 1) rfl)) (ev_mulL ev_int (ev_ixV (ev_var rfl) ev_int (.ce 0 rfl) (atI_nat (j := 2) rfl)))) ev_int) ev_int ⟨by decide, by decide, ?_⟩)) ev_int (by decide)) ?_
    · omega
    refine g_ret hR (ev_modI (ev_modI (ev_int1 (ev_mulR (ev_addI (ev_var rfl) (ev_ixV (ev_var rfl) ev_int (.ce 0 rfl) (atI_nat (j := 2) rfl))) ev_int)) ev_int (by decide)) (ev_var rfl) h0) ?_
    unfold tk
    rw [if_neg hb]
    exact ⟨rfl, rfl⟩
end
structure WdOk (l : List Nat) (k : Nat) : Prop where
  hd : ∃ c, l.head? = some c ∧ c ∈ letL
  sg : ∀ x ∈ l, x ∈ letL ++ digL
  len : l.length = k
theorem head_take {l : List Nat} {n : Nat} (h : 0 < n) : (l.take n).head? = l.head? := by
  cases l with
  | nil => simp
  | cons c r =>
    cases n with
    | zero => omega
    | succ n => rfl
theorem head_app {l m : List Nat} {c : Nat} (h : l.head? = some c) : (l ++ m).head? = some c := by
  cases l with
  | nil => cases h
  | cons d r => exact h
theorem key_snoc {β : Type} {key : Str → β} {f : Nat → β} {ss : List Str} {x : Str} (h : ∀ j s, ss[j]? = some s → key s = f j) (hx : key x = f ss.length) : ∀ j s, (ss ++ [x])[j]? = some s → key s = f j := fun j s e => by
  rcases Nat.lt_trichotomy j ss.length with q | q | q
  · rw [List.getElem?_append_left q] at e
    exact h j s e
  · subst q
    rw [List.getElem?_append_right (Nat.le_refl _), Nat.sub_self] at e
    cases e
    exact hx
  · rw [List.getElem?_append_right (by omega)] at e
    have := (List.getElem?_eq_some_iff.mp e).1
    rw [List.length_singleton] at this
    omega
theorem key_nd {β : Type} {key : Str → β} {f : Nat → β} {ss : List Str} (h : ∀ j s, ss[j]? = some s → key s = f j) (inj : ∀ i j, i < j → j < ss.length → f i ≠ f j) : ss.Nodup := by
  refine List.pairwise_iff_getElem.mpr fun i j hi hj hij e => inj i j hij hj ?_
  rw [← h i _ (List.getElem?_eq_getElem hi), ← h j _ (List.getElem?_eq_getElem hj), e]
theorem at_get {β : Type} {xs : List β} {i : Int} {x : β} (h0 : 0 ≤ i) (h : atI xs i = some x) : xs[i.toNat]? = some x := by
  unfold atI ixN at h
  rw [if_pos h0] at h
  by_cases q : i < xs.length
  · rw [if_pos q] at h
    exact h
  · rw [if_neg q] at h
    cases h
theorem let_nd : letL.Nodup := by decide
theorem sig_nd : (letL ++ digL).Nodup := by decide
theorem nd_inj {xs : List Nat} (h : xs.Nodup) {i j : Nat} (hi : i < xs.length) (hij : i ≠ j) : xs[i]? ≠ xs[j]? := fun e => by
  rw [List.getElem?_eq_getElem hi] at e
  obtain ⟨hj, e2⟩ := List.getElem?_eq_some_iff.mp e.symm
  exact hij ((List.getElem_inj h).mp e2).symm
def rwL (r : Ln) : D := .tup [.str r.1, .str r.2.1, .str r.2.2]
def rwD (es : List Ln) : List D := es.map rwL
def PtD (ps : List Str) (es : List Ln) : D := .lst [.lst (stD ps), .lst (rwD es)]
/-- posts and lanes of a net -/
structure PtOk (ps : List Str) (es : List Ln) : Prop where
  pn : ∀ p ∈ ps, isNm p = true
  pd : ps.Nodup
  en : ∀ r ∈ es, isNm r.1 = true
  ed : (lnN es).Nodup
  st : ∀ r ∈ es, r.2.1 ∈ ps ∧ r.2.2 ∈ ps
  pl : ps.length ≤ 40
  el : es.length ≤ 100
theorem nm_ok {s : Str} (h : isNm s = true) : nmOk (.str s) := Nat.le_trans (isNm_len h) (by decide)
theorem po_ok {K : PySem.W.Frag} {a o d : Addr} {ps : List Str} {es : List Ln} {s : Str} (h : isNm s = true) (hn : ¬ s ∈ ps) : poO K a o d ps es (.str s) = Rt .non (NetC K a o d (ps ++ [s]) es) := by
  unfold poO
  rw [if_neg (by show ¬ isNm s = false; rw [h]; decide)]
  exact if_neg hn
theorem la_ok {K : PySem.W.Frag} {a o d : Addr} {ps : List Str} {es : List Ln} {s st en : Str} (h : isNm s = true) (hn : ¬ s ∈ lnN es) (h1 : st ∈ ps) (h2 : en ∈ ps) : laO K a o d ps es (.str s) st en = Rt .non (NetC K a o d ps (es ++ [(s, st, en)])) := by
  unfold laO
  rw [if_neg (by show ¬ isNm s = false; rw [h]; decide)]
  exact (if_neg hn).trans ((if_neg fun z => z h1).trans (if_neg fun z => z h2))
theorem not_take {α : Type} {xs : List α} (h : xs.Nodup) {i : Nat} {x : α} (hx : xs[i]? = some x) : ¬ x ∈ xs.take i := fun hm => by
  have e : xs = xs.take i ++ x :: xs.drop (i + 1) := by
    obtain ⟨hi, rfl⟩ := List.getElem?_eq_some_iff.mp hx
    rw [List.getElem_cons_drop, List.take_append_drop]
  rw [e, List.nodup_append] at h
  exact h.2.2 x hm x List.mem_cons_self rfl
theorem lnN_take (es : List Ln) (i : Nat) : lnN (es.take i) = (lnN es).take i := List.map_take
theorem sub_len : ∀ {xs ys : List Str}, xs.Nodup → (∀ x ∈ xs, x ∈ ys) → xs.length ≤ ys.length
  | [], _, _, _ => Nat.zero_le _
  | x :: xs, ys, h, s => by
    have h2 := List.nodup_cons.mp h
    have hx := s x List.mem_cons_self
    have := sub_len (xs := xs) (ys := ys.erase x) h2.2 fun y hy => (List.mem_erase_of_ne (fun z : y = x => h2.1 (by rw [← z]; exact hy))).mpr (s y (List.mem_cons_of_mem _ hy))
    rw [List.length_erase_of_mem hx] at this
    have : 0 < ys.length := List.length_pos_of_mem hx
    rw [List.length_cons]
    omega
theorem tail_sg {w : List Nat} (h : ∀ x ∈ w, x ∈ letL ++ digL) : ∀ x ∈ w.drop 1, x ∈ letL ++ digL := fun x hx => h x (List.mem_of_mem_drop hx)
theorem nm_sg {s : Str} (h : isNm s = true) : (∀ x ∈ s.cps.toList, x ∈ letL ++ digL) ∧ s.cps.toList.length ≤ 8 ∧ s.cps.toList ≠ [] := by
  unfold isNm at h
  cases hc : s.cps.toList with
  | nil => rw [hc] at h; cases h
  | cons c r =>
    rw [hc] at h
    unfold nmL at h
    rw [Bool.and_eq_true, Bool.and_eq_true, decide_eq_true_eq, decide_eq_true_eq, List.all_eq_true] at h
    refine ⟨fun x hx => ?_, h.1, fun z => by cases z⟩
    rcases List.mem_cons.mp hx with rfl | hx
    · exact List.mem_append_left _ h.2.1
    · have := h.2.2 x (List.mem_cons_of_mem _ hx)
      rw [Bool.or_eq_true, decide_eq_true_eq, decide_eq_true_eq] at this
      exact List.mem_append.mpr this
theorem tx_of_str (s : Str) : tx s.cps.toList = s := str_ext (by rw [tx_cps])
/-- the i-th word that is tried -/
def strW (q : Int) (w : List Nat) (i : Nat) : Str := tx ((letL[((q + (i : Int)) % 26).toNat]?.getD 0) :: w.drop 1)
theorem strW_at {q : Int} {w : List Nat} {i : Nat} : ∃ c, letL[((q + (i : Int)) % 26).toNat]? = some c ∧ c ∈ letL ∧ strW q w i = tx (c :: w.drop 1) := by
  have h0 : 0 ≤ (q + (i : Int)) % 26 := Int.emod_nonneg _ (by decide)
  have h1 : (q + (i : Int)) % 26 < 26 := Int.emod_lt_of_pos _ (by decide)
  have h2 : ((q + (i : Int)) % 26).toNat < letL.length := by rw [let_len]; omega
  refine ⟨_, List.getElem?_eq_getElem h2, List.getElem_mem h2, ?_⟩
  unfold strW
  rw [List.getElem?_eq_getElem h2]
  rfl
theorem strW_ne {q : Int} {w : List Nat} {i j : Nat} (hi : i < 26) (hj : j < 26) (h : i ≠ j) : strW q w i ≠ strW q w j := fun e => by
  obtain ⟨c, h1, _, h3⟩ := strW_at (q := q) (w := w) (i := i)
  obtain ⟨d, h4, _, h6⟩ := strW_at (q := q) (w := w) (i := j)
  rw [h3, h6] at e
  have e2 := congrArg (fun s : Str => s.cps.toList) e
  rw [tx_cps, tx_cps] at e2
  have e3 : c = d := (List.cons.inj e2).1
  subst e3
  have hz : ((q + (i : Int)) % 26).toNat ≠ ((q + (j : Int)) % 26).toNat := by omega
  exact nd_inj let_nd (by rw [let_len]; omega) hz (h1.trans h4.symm)
theorem strW_free {q : Int} {w : List Nat} {ns : List Str} (h : ns.length < 26) : ∃ i, i < 26 ∧ ¬ strW q w i ∈ ns := by
  refine Classical.byContradiction fun z => ?_
  have all : ∀ i, i < 26 → strW q w i ∈ ns := fun i hi => Classical.byContradiction fun y => z ⟨i, hi, y⟩
  have nd : ((List.range 26).map (strW q w)).Nodup := by
    refine List.pairwise_iff_getElem.mpr fun i j hi hj hij => ?_
    rw [List.length_map, List.length_range] at hi hj
    rw [List.getElem_map, List.getElem_map, List.getElem_range, List.getElem_range]
    exact strW_ne hi hj (by omega)
  have := sub_len nd (ys := ns) fun x hx => by
    obtain ⟨i, hi, rfl⟩ := List.mem_map.mp hx
    exact all i (List.mem_range.mp hi)
  rw [List.length_map, List.length_range] at this
  omega
/-- the word that is changed, and the pool behind it -/
def stgW (p : Pl) (ns : List Str) : List Nat × Pl := if ns = [] then ([113], p) else ((ns.getD (tk p ((stD ns).length : Nat)).1.toNat "").cps.toList, (tk p ((stD ns).length : Nat)).2)
def stgI (q : Int) (w : List Nat) (ns : List Str) : Nat := ((List.range 26).find? fun i => !decide (strW q w i ∈ ns)).getD 0
/-- the stranger, the pool behind it -/
def stgS (p : Pl) (ns : List Str) : Str := strW (tk (stgW p ns).2 26).1 (stgW p ns).1 (stgI (tk (stgW p ns).2 26).1 (stgW p ns).1 ns)
def stgP (p : Pl) (ns : List Str) : Pl := (tk (stgW p ns).2 26).2
theorem stgW_ok {p : Pl} {n : Int} {ns : List Str} (hp : p.Ok n) (hnm : ∀ s ∈ ns, isNm s = true) : (stgW p ns).2.Ok (n + 1) ∧ (∀ x ∈ (stgW p ns).1, x ∈ letL ++ digL) ∧ (stgW p ns).1.length ≤ 8 := by
  unfold stgW
  by_cases hb : ns = []
  · rw [if_pos hb]
    show p.Ok (n + 1) ∧ (∀ x ∈ ([113] : List Nat), x ∈ letL ++ digL) ∧ ([113] : List Nat).length ≤ 8
    exact ⟨hp.up (by omega), by decide, by decide⟩
  · rw [if_neg hb]
    have hL : (0 : Int) < ((stD ns).length : Nat) := by rw [stD_len]; have := List.length_pos_iff.mpr hb; omega
    have t1 := tk_lt p hL
    have hu : (tk p ((stD ns).length : Nat)).1.toNat < ns.length := by have h2 := t1.2; have h1 := t1.1; rw [stD_len] at h1 h2 ⊢; have := List.length_pos_iff.mpr hb; omega
    have e : ns.getD (tk p ((stD ns).length : Nat)).1.toNat "" = ns[(tk p ((stD ns).length : Nat)).1.toNat] := by rw [List.getD_eq_getElem?_getD, List.getElem?_eq_getElem hu]; rfl
    dsimp only
    rw [e]
    have hs := nm_sg (hnm _ (List.getElem_mem hu))
    exact ⟨tk_ok hp hL, hs.1, hs.2.1⟩
theorem strW_nm {q : Int} {w : List Nat} {i : Nat} (hw : ∀ x ∈ w, x ∈ letL ++ digL) (hl : w.length ≤ 8) : isNm (strW q w i) = true := by
  obtain ⟨c, hc, hcm, he⟩ := strW_at (q := q) (w := w) (i := i)
  rw [he]
  refine nm_of ⟨c, rfl, hcm⟩ (fun x hx => ?_) (by rw [List.length_cons, List.length_drop]; omega)
  rcases List.mem_cons.mp hx with rfl | hx
  · exact List.mem_append_left _ hcm
  · exact tail_sg hw x hx
theorem stgI_eq {q : Int} {w : List Nat} {ns : List Str} {i : Nat} (hi : i < 26) (h : ∀ j, j < i → strW q w j ∈ ns) (hn : ¬ strW q w i ∈ ns) : stgI q w ns = i := by
  unfold stgI
  rw [find_first (i := i) (d := i) (fun e he => ?_) (by rw [List.getElem?_range hi]) (by rw [decide_eq_false hn]; rfl)]
  · rfl
  · obtain ⟨j, hj, rfl⟩ := List.mem_iff_getElem.mp he
    rw [List.length_take, List.length_range] at hj
    rw [List.getElem_take, List.getElem_range]
    rw [decide_eq_true (h j (by omega))]
    rfl
theorem stg_ok {p : Pl} {n : Int} {ns : List Str} (hp : p.Ok n) (hl : ns.length < 26) (hnm : ∀ s ∈ ns, isNm s = true) : isNm (stgS p ns) = true ∧ ¬ stgS p ns ∈ ns ∧ (stgP p ns).Ok (n + 2) := by
  obtain ⟨h1, h2, h3⟩ := stgW_ok hp hnm
  refine ⟨strW_nm h2 h3, ?_, (tk_ok h1 (by decide)).up (by omega)⟩
  obtain ⟨i, hi, hn⟩ := strW_free (q := (tk (stgW p ns).2 26).1) (w := (stgW p ns).1) hl
  unfold stgS stgI
  cases hf : (List.range 26).find? fun i => !decide (strW (tk (stgW p ns).2 26).1 (stgW p ns).1 i ∈ ns) with
  | none =>
    have := List.find?_eq_none.mp hf i (List.mem_range.mpr hi)
    rw [decide_eq_false hn] at this
    exact absurd rfl this
  | some j =>
    have := List.find?_some hf
    rw [Bool.not_eq_true', decide_eq_false_iff_not] at this
    exact this
def ct_law_stranger (K : PySem.W.Frag) : Ct := Ct2 fun s b ka out => ∃ a p n ns, s = .val (.adr a) ∧ b = .val (.lst (stD ns)) ∧ ka = [(a, .lst (Pl.ds p))] ∧ p.Ok n ∧ 0 ≤ n ∧ n ≤ 900000 ∧ ns.length < 26 ∧ (∀ s ∈ ns, isNm s = true) ∧
  out = Rt (.str (stgS p ns)) [(a, .lst (stgP p ns).ds)]
theorem ev_stranger {K : PySem.W.Frag} {ro : Ro} {ka kr : Cells} {te tf : TE} {a : Addr} {p : Pl} {n : Int} {ns : List Str} {E : XK} {k1 : Cells} (h : EvD K te ro ka (.val (.adr a)) k1) (h2 : EvD K tf ro k1 (.val (.lst (stD ns))) ((a, .lst p.ds) :: kr)) (hp : p.Ok n) (h0 : 0 ≤ n) (h1 : n ≤ 900000) (hl : ns.length < 26) (hnm : ∀ s ∈ ns, isNm s = true) :
    EvD K (tCall (spC K (ct_law_stranger K)) [] E (tCons te (tCons tf tNil))) ro ka (.val (.str (stgS p ns))) ((a, .lst (stgP p ns).ds) :: kr) := ev_call1 (ea2 h h2) ⟨_, _, rfl, a, p, n, ns, rfl, rfl, rfl, hp, h0, h1, hl, hnm, rfl⟩
section
variable {P : Program} {w : World} {K : PySem.W.Frag} {mg : Str → Option Value} {base : Heap}
theorem ok_law_stranger (T : Tx K mg) (F_law_take : Fn P w K mg base 4 (He.ga K "_law_take") ["_law_pool_here", "_law_many_here"] (ct_law_take K)) : Fn P w K mg base 6 (He.ga K "_law_stranger") ["_law_pool_here", "_law_names"] (ct_law_stranger K) := by
  obtain ⟨fd, F⟩ := T.d_law_stranger
  refine fn_ok F sc_law_stranger (fun _ _ _ _ _ _ us hl => match us, hl with | [_, _], _ => rfl) ct2_len (fun cdv A outer s H E hr => ⟨_, (pss_cons (ps_set (i := 2) sc_law_stranger.nd rfl (by first | exact Or.inl rfl | exact Or.inr rfl) pe_str)
      (pss_cons (ps_if (pt_cmpR (op_neP (by have := (hr).units; exact this)) (pv 1) (pe_lst pa_nil) (nomark _))
      (pss_one (ps_set (i := 2) sc_law_stranger.nd rfl (by first | exact Or.inl rfl | exact Or.inr rfl) (pe_ix ix_seq (pv 1) (pe_call (F_law_take.up (by decide)).ok hr rfl T.g_law_take.1 T.g_law_take.2 (F_law_take.up (by decide)).bn .nil (pass_own rfl rfl rfl rfl) (pa_cons (pv 0) (pa_cons (pe_callB call_lenU rfl T.n_len (by decide +kernel) (pa_cons (pv 1) pa_nil)) pa_nil))) fun _ _ => rfl)))
      pss_nil)
      (pss_cons (ps_set (i := 3) sc_law_stranger.nd rfl (by first | exact Or.inl rfl | exact Or.inr rfl) pe_str)
      (pss_cons (ps_set (i := 4) sc_law_stranger.nd rfl (by first | exact Or.inl rfl | exact Or.inr rfl) (pe_call (F_law_take.up (by decide)).ok hr rfl T.g_law_take.1 T.g_law_take.2 (F_law_take.up (by decide)).bn .nil (pass_own rfl rfl rfl rfl) (pa_cons (pv 0) (pa_cons pe_int pa_nil))))
      (pss_cons (ps_for (passes_of rfl) rfl (pi_range1 rfl T.n_range (pa_cons pe_int pa_nil)) (pg_name (i := 5) sc_law_stranger.nd rfl (by first | exact Or.inl rfl | exact Or.inr rfl)) (pss_cons (ps_set (i := 6) sc_law_stranger.nd rfl (by first | exact Or.inl rfl | exact Or.inr rfl) (pe_op op_addU (pe_ix ix_seq (pv 3) (pe_op op_mod (pe_op op_addU (pv 4) (pv 5)) pe_int) fun _ _ => rfl) (pe_slice sl_U (pv 2) (po_some pe_int) po_none)))
      (pss_one (ps_if (pt_cmpR op_niU (pv 6) (pv 1) (by with_unfolding_all rfl))
      (pss_one (ps_ret (pv 6)))
      pss_nil))))
      (pss_one (ps_ret pe_str))))))), fun ws ka out B F0 Q hC hR hX => ?_⟩)
  obtain ⟨s1, b1, rfl, a, p, n, ns, rfl, rfl, rfl, hp, hn0, hn, hl, hnm, rfl⟩ := hC
  obtain ⟨hp2, hw1, hw2⟩ := stgW_ok hp hnm
  refine q_asg (ev_str.to (w' := .val (.str (tx [113]))) rfl) ?_
  refine q_whenI (fun ro ka => ro = [some (.val (.adr a)), some (.val (.lst (stD ns))), some (.val (.str (tx (stgW p ns).1))), none, none, none, none] ∧ ka = [(a, .lst (Pl.ds (stgW p ns).2))])
    ((et_test (ev_ne (d := .lst (stD ns)) (e := .lst []) (ev_var rfl) (evn_lst (ds := []) ea_nil (by decide)).lst .v .v (pl_stD _ 60) rfl)).to (b := !decide (ns = [])) ?bb) (fun hb nx k => ?t1) (fun hb => ?t2) (fun ro2 ka2 ⟨e1, e2⟩ => ?go)
  case bb =>
    cases ns with
    | nil => rfl
    | cons _ _ => rfl
  case t1 =>
    rw [Bool.not_eq_true', decide_eq_false_iff_not] at hb
    have hL : (0 : Int) < ((stD ns).length : Nat) := by rw [stD_len]; have := List.length_pos_iff.mpr hb; omega
    have hL2 : (((stD ns).length : Nat) : Int) ≤ 100000000 := by rw [stD_len]; omega
    have t1 := tk_lt p hL
    have hu : (tk p ((stD ns).length : Nat)).1.toNat < ns.length := by have h2 := t1.2; have h1 := t1.1; rw [stD_len] at h1 h2 ⊢; have := List.length_pos_iff.mpr hb; omega
    have e : stgW p ns = (ns[(tk p ((stD ns).length : Nat)).1.toNat].cps.toList, (tk p ((stD ns).length : Nat)).2) := by
      unfold stgW
      rw [if_neg hb, List.getD_eq_getElem?_getD, List.getElem?_eq_getElem hu]
      rfl
    exact g_asg ((ev_ixV (ev_var rfl) (ev_take (kr := []) (ev_var rfl) (ev_len (ev_var rfl) .vl) (hp.up (by omega)) hL hL2) .vl (atZ t1.1 (stD_get (List.getElem?_eq_getElem hu)))).to (w' := .val (.str (tx (ns[(tk p ((stD ns).length : Nat)).1.toNat]).cps.toList))) (by rw [tx_of_str])) (k _ _ (by rw [e]; exact ⟨rfl, rfl⟩))
  case t2 =>
    rw [Bool.not_eq_false', decide_eq_true_eq] at hb
    have e : stgW p ns = ([113], p) := if_pos hb
    rw [e]
    exact ⟨rfl, rfl⟩
  case go =>
  subst e1 e2
  have hS : stgS p ns = strW (tk (stgW p ns).2 26).1 (stgW p ns).1 (stgI (tk (stgW p ns).2 26).1 (stgW p ns).1 ns) := rfl
  have hP : stgP p ns = (tk (stgW p ns).2 26).2 := rfl
  rw [hS, hP] at hR
  generalize (stgW p ns).1 = w at *
  generalize (stgW p ns).2 = p2 at *
  refine q_asg (ev_str.to (congrArg (fun z => W.val (.str z)) letters_tx)) ?_
  refine q_asg (ev_take (kr := []) (ev_var rfl) ev_int (hp2.up (by omega)) (by decide) (by decide)) ?_
  generalize tk p2 26 = q2 at *
  refine q_forn (ei_range1 (ea1 ev_int) (by decide) (by decide)) (fun i ro ka => ∃ (v v2 : Option W), ro = [some (.val (.adr a)), some (.val (.lst (stD ns))), some (.val (.str (tx w))), some (.val (.str (tx letL))), some (.val (.int q2.1)), v, v2] ∧ ka = [(a, .lst (Pl.ds q2.2))] ∧ ∀ j, j < i → strW q2.1 w j ∈ ns) ⟨_, _, rfl, rfl, fun j z => absurd z (Nat.not_lt_zero _)⟩ (fun i ro ka _ => trivial) (fun i w2 ro2 ka2 ta' hw ⟨v, v2, e1, e2, hs⟩ => ?_) (fun ro2 ka2 ta' ⟨v, v2, e1, e2, hs⟩ _ => ?_)
  · subst e1 e2
    rw [List.getElem?_map] at hw
    obtain ⟨i', hi', rfl⟩ := Option.map_eq_some_iff.mp hw
    obtain ⟨hi1, hi2⟩ := List.getElem?_eq_some_iff.mp hi'
    rw [List.getElem_range] at hi2
    subst hi2
    have hi26 : i < 26 := by rw [List.length_range] at hi1; exact hi1
    obtain ⟨c, hc, hcm, he⟩ := strW_at (q := q2.1) (w := w) (i := i)
    have h0 : 0 ≤ (q2.1 + (i : Int)) % 26 := Int.emod_nonneg _ (by decide)
    refine q_asg (w := .val (.str (strW q2.1 w i))) ((ev_addT (ev_ixT (ev_var rfl) (ev_modI (ev_addI (ev_var rfl) (ev_var rfl)) ev_int (by decide)) (by decide) (atZ h0 hc)) ((ev_slX (ev_var rfl) (eo_some ev_int) eo_none (by omega)).to (w' := .val (.str (tx (w.drop 1)))) ?_) (by simp; omega)).to (congrArg (fun z => W.val (.str z)) he.symm)) ?_
    · by_cases hw0 : w = []
      · subst hw0; rfl
      · have : 0 < w.length := List.length_pos_iff.mpr hw0
        rw [cut_from (by decide) (by omega)]
        rfl
    refine g_if (et_test (ev_niL (ev_var rfl) (ev_var rfl) .vl)) (fun hb => g_ret hR (ev_var rfl) ?_) (fun hb => g_next (g_jp ⟨_, _, rfl, rfl, fun j hj => ?_⟩))
    · rw [Bool.not_eq_true', decide_eq_false_iff_not] at hb
      rw [stgI_eq hi26 hs hb]
      exact ⟨rfl, rfl⟩
    · rw [Bool.not_eq_false', decide_eq_true_eq] at hb
      by_cases q : j = i
      · subst q; exact hb
      · exact hs j (by omega)
  · subst e1 e2
    rw [List.length_map, List.length_range] at hs
    obtain ⟨i, hi, hn⟩ := strW_free (q := q2.1) (w := w) hl
    exact absurd (hs i hi) hn
end
theorem nm_put {st : List Nat} {k c p : Nat} (hl : WdOk st k) (hk : k ≤ 7) (hp : p ≤ st.length) (h0 : p = 0 → c ∈ letL) (hc : c ∈ letL ++ digL) : isNm (tx (st.take p ++ [c] ++ st.drop p)) = true := by
  refine nm_of ?_ (fun x hx => ?_) ?_
  · by_cases hp0 : p = 0
    · subst hp0
      exact ⟨c, by simp, h0 rfl⟩
    · obtain ⟨d, h1, h2⟩ := hl.hd
      exact ⟨d, head_app (head_app (by rw [head_take (by omega)]; exact h1)), h2⟩
  · rcases List.mem_append.mp hx with hx | hx
    · rcases List.mem_append.mp hx with hx | hx
      · exact hl.sg x (List.mem_of_mem_take hx)
      · rw [List.mem_singleton.mp hx]; exact hc
    · exact hl.sg x (List.mem_of_mem_drop hx)
  · have := hl.len
    rw [List.length_append, List.length_append, List.length_take, List.length_drop]
    simp
    omega
def ct_law_many (K : PySem.W.Frag) : Ct := Ct2 fun s b ka out => ∃ a p n m, s = .val (.adr a) ∧ b = .val (.int m) ∧ ka = [(a, .lst (Pl.ds p))] ∧ p.Ok n ∧ 0 ≤ n ∧ n ≤ 900000 ∧ 0 ≤ m ∧ m ≤ 26 ∧
  out = fun o k => ∃ ss p', o = .ret (.lst (stD ss)) ∧ k = [(a, .lst (Pl.ds p'))] ∧ p'.Ok (n + 50) ∧ ss.length = m.toNat ∧ (∀ s ∈ ss, isNm s = true) ∧ ss.Nodup
section
variable {P : Program} {w : World} {K : PySem.W.Frag} {mg : Str → Option Value} {base : Heap}
theorem ok_law_many (T : Tx K mg) (F_law_take : Fn P w K mg base 4 (He.ga K "_law_take") ["_law_pool_here", "_law_many_here"] (ct_law_take K)) : Fn P w K mg base 6 (He.ga K "_law_many") ["_law_pool_here", "_law_many_here"] (ct_law_many K) := by
  obtain ⟨fd, F⟩ := T.d_law_many
  refine fn_ok F sc_law_many (fun _ _ _ _ _ _ us hl => match us, hl with | [_, _], _ => rfl) ct2_len (fun cdv A outer s H E hr => ⟨_, (pss_cons (ps_set (i := 2) sc_law_many.nd rfl (by first | exact Or.inl rfl | exact Or.inr rfl) pe_str)
      (pss_cons (ps_set (i := 3) sc_law_many.nd rfl (by first | exact Or.inl rfl | exact Or.inr rfl) (pe_op op_addU (pv 2) pe_str))
      (pss_cons (ps_set (i := 4) sc_law_many.nd rfl (by first | exact Or.inl rfl | exact Or.inr rfl) (pe_ix ix_seq (pv 2) (pe_call (F_law_take.up (by decide)).ok hr rfl T.g_law_take.1 T.g_law_take.2 (F_law_take.up (by decide)).bn .nil (pass_own rfl rfl rfl rfl) (pa_cons (pv 0) (pa_cons pe_int pa_nil))) fun _ _ => rfl))
      (pss_cons (ps_for (passes_of rfl) rfl (pi_range1 rfl T.n_range (pa_cons (pe_call (F_law_take.up (by decide)).ok hr rfl T.g_law_take.1 T.g_law_take.2 (F_law_take.up (by decide)).bn .nil (pass_own rfl rfl rfl rfl) (pa_cons (pv 0) (pa_cons pe_int pa_nil))) pa_nil)) (pg_name (i := 5) sc_law_many.nd rfl (by first | exact Or.inl rfl | exact Or.inr rfl)) (pss_one (ps_set (i := 4) sc_law_many.nd rfl (by first | exact Or.inl rfl | exact Or.inr rfl) (pe_op op_addU (pv 4) (pe_ix ix_seq (pv 3) (pe_call (F_law_take.up (by decide)).ok hr rfl T.g_law_take.1 T.g_law_take.2 (F_law_take.up (by decide)).bn .nil (pass_own rfl rfl rfl rfl) (pa_cons (pv 0) (pa_cons pe_int pa_nil))) fun _ _ => rfl)))))
      (pss_cons (ps_set (i := 6) sc_law_many.nd rfl (by first | exact Or.inl rfl | exact Or.inr rfl) (pe_call (F_law_take.up (by decide)).ok hr rfl T.g_law_take.1 T.g_law_take.2 (F_law_take.up (by decide)).bn .nil (pass_own rfl rfl rfl rfl) (pa_cons (pv 0) (pa_cons (pe_op op_addU (pe_callB call_lenU rfl T.n_len (by decide +kernel) (pa_cons (pv 4) pa_nil)) pe_int) pa_nil))))
      (pss_cons (ps_set (i := 7) sc_law_many.nd rfl (by first | exact Or.inl rfl | exact Or.inr rfl) (pe_ifExp (pt_cmpR (op_eqP (by have := (hr).units; exact this)) (pv 6) pe_int (nomark _)) (pv 2) (pv 3)))
      (pss_cons (ps_set (i := 8) sc_law_many.nd rfl (by first | exact Or.inl rfl | exact Or.inr rfl) (pe_call (F_law_take.up (by decide)).ok hr rfl T.g_law_take.1 T.g_law_take.2 (F_law_take.up (by decide)).bn .nil (pass_own rfl rfl rfl rfl) (pa_cons (pv 0) (pa_cons pe_int pa_nil))))
      (pss_cons (ps_if (pt_cmpR (op_eqP (by have := (hr).units; exact this)) (pe_call (F_law_take.up (by decide)).ok hr rfl T.g_law_take.1 T.g_law_take.2 (F_law_take.up (by decide)).bn .nil (pass_own rfl rfl rfl rfl) (pa_cons (pv 0) (pa_cons pe_int pa_nil))) pe_int (nomark _))
      (pss_one (ps_ret (pe_lc (te := (tOp (rAddU K) (tOp (rIx K) (tVar 2) (tOp rModI (tOp (rAddU K) (tVar 8) (tOp rMulU (tC (.int 3)) (tVar 5))) (tC (.int 26)))) (tSl (rSlU K) (tVar 4) tNoPart (tPart (tCall (spC K (ct_law_take K)) [] (fun _ _ _ => False) (tCons (tVar 0) (tCons (tC (.int 8)) tNil))))))) (tt := tYes) (own := [("_law_k", 5)]) rfl sc_law_many.nd (pi_range1 rfl T.n_range (pa_cons (pv 1) pa_nil)) (blk_ok ["_law_pool_here", "_law_many_here", "_law_letters", "_law_signs", "_law_stem", "_law_k", "_law_place", "_law_told", "_law_start", "_law_names", "_law_sign"] (defScope s_law_many) rfl rfl (by decide +kernel)) (fun _ _ _ _ _ => (pg_name (i := 5) sc_law_many.nd rfl (by first | exact Or.inl rfl | exact Or.inr rfl))) (fun _ _ _ _ _ => pts_nil) (fun _ _ _ _ _ => (pe_op op_addU (pe_ix ix_seq (pv 2) (pe_op op_mod (pe_op op_addU (pv 8) (pe_op op_mulU pe_int (pv 5))) pe_int) fun _ _ => rfl) (pe_slice sl_U (pv 4) po_none (po_some (pe_call (F_law_take.up (by decide)).ok hr rfl T.g_law_take.1 T.g_law_take.2 (F_law_take.up (by decide)).bn .nil passes_no (pa_cons (pv 0) (pa_cons pe_int pa_nil))))))))))
      pss_nil)
      (pss_cons (ps_set (i := 9) sc_law_many.nd rfl (by first | exact Or.inl rfl | exact Or.inr rfl) (pe_lst pa_nil))
      (pss_cons (ps_for (passes_of rfl) rfl (pi_range1 rfl T.n_range (pa_cons (pv 1) pa_nil)) (pg_name (i := 5) sc_law_many.nd rfl (by first | exact Or.inl rfl | exact Or.inr rfl)) (pss_cons (ps_set (i := 10) sc_law_many.nd rfl (by first | exact Or.inl rfl | exact Or.inr rfl) (pe_ix ix_seq (pv 7) (pe_op op_mod (pe_op op_addU (pv 8) (pe_op op_mulU pe_int (pv 5))) (pe_callB call_lenU rfl T.n_len (by decide +kernel) (pa_cons (pv 7) pa_nil))) fun _ _ => rfl))
      (pss_one (ps_expr (pe_bm PySem.F.plainAttrs_list PySem.F.slot_list_append PySem.F.type_list_append mt_append (pv 9) (pa_cons (pe_op op_addU (pe_op op_addU (pe_slice sl_U (pv 4) po_none (po_some (pv 6))) (pv 10)) (pe_slice sl_U (pv 4) (po_some (pv 6)) po_none)) pa_nil))))))
      (pss_one (ps_ret (pv 9))))))))))))), fun ws ka out B F0 Q hC hR hX => ?_⟩)
  obtain ⟨s1, b1, rfl, a, p, n, m, rfl, rfl, rfl, hp, hn0, hn, hm0, hm, rfl⟩ := hC
  refine q_asg (ev_str.to (congrArg (fun z => W.val (.str z)) letters_tx)) ?_
  refine q_asg (ev_addT (ev_var rfl) (ev_str.to (congrArg (fun z => W.val (.str z)) digits_tx)) (by decide)) ?_
  have t0 := tk_lt p (m := 26) (by decide)
  obtain ⟨c0, hc0, hm1⟩ := sgn_at (l := letL) t0.1 (by rw [let_len]; exact t0.2)
  have hp1 : (tk p 26).2.Ok (n + 1) := tk_ok hp (by decide)
  refine q_asg (ev_ixT (ev_var rfl) (ev_take (kr := []) (ev_var rfl) ev_int (hp.up (by omega)) (by decide) (by decide)) (by decide) hc0) ?_
  have t1 := tk_lt (tk p 26).2 (m := 7) (by decide)
  have hp2 := tk_ok hp1 (m := 7) (by decide)
  refine q_forn (ei_range1 (ea1 (ev_take (kr := []) (ev_var rfl) ev_int (hp1.up (by omega)) (by decide) (by decide))) (by omega) (by omega)) (fun i ro ka => ∃ l p' v, ro = [some (.val (.adr a)), some (.val (.int m)), some (.val (.str (tx letL))), some (.val (.str (tx (letL ++ digL)))), some (.val (.str (tx l))), v, none, none, none, none, none] ∧ ka = [(a, .lst (Pl.ds p'))] ∧ p'.Ok (n + 2 + i) ∧ WdOk l (i + 1))
    ⟨[c0], _, none, rfl, rfl, hp2.up (by omega), ⟨c0, rfl, hm1⟩, fun x hx => by rw [List.mem_singleton.mp hx]; exact List.mem_append_left _ hm1, rfl⟩ (fun i ro ka _ => trivial) (fun i w ro2 ka2 ta' hw ⟨l, p', v, e1, e2, hp', hl⟩ => ?_) (fun ro2 ka2 ta' ⟨st, p1, v, e1, e2, hp1, hl⟩ _ => ?_)
  · subst e1 e2
    have hi : i < (tk (tk p 26).2 7).1.toNat := by
      have := (List.getElem?_eq_some_iff.mp hw).1
      rwa [List.length_map, List.length_range] at this
    have t2 := tk_lt p' (m := 36) (by decide)
    obtain ⟨c, hc, hm2⟩ := sgn_at (l := letL ++ digL) t2.1 (by rw [sig_len]; exact t2.2)
    refine g_asg (ev_addT (ev_var rfl) (ev_ixT (ev_var rfl) (ev_take (kr := []) (ev_var rfl) ev_int (hp'.up (by omega)) (by decide) (by decide)) (by decide) hc) (by rw [hl.len]; simp; omega)) (g_jp ⟨l ++ [c], _, _, rfl, rfl, (tk_ok hp' (by decide)).up (by push_cast; omega), ?_, fun x hx => ?_, by rw [List.length_append, hl.len]; rfl⟩)
    · obtain ⟨d, h1, h2⟩ := hl.hd
      exact ⟨d, head_app h1, h2⟩
    · rcases List.mem_append.mp hx with hx | hx
      · exact hl.sg x hx
      · rw [List.mem_singleton.mp hx]; exact hm2
  subst e1 e2
  rw [List.length_map, List.length_range] at hp1 hl
  have hp3 : p1.Ok (n + 9) := hp1.up (by omega)
  have hsl : st.length ≤ 7 := by have := hl.len; omega
  have t7 := tk_lt p1 (m := (st.length : Int) + 1) (by omega)
  have hp5 := tk_ok hp3 (m := (st.length : Int) + 1) (by omega)
  refine q_asg (ev_take (kr := []) (ev_var rfl) (ev_addI (ev_lenX (ev_var rfl) (by omega)) ev_int) (hp3.up (by omega)) (by omega) (by omega)) ?_
  generalize tk p1 ((st.length : Int) + 1) = q5 at *
  generalize htl : (if (q5.1 == 0) = true then letL else letL ++ digL) = tl
  have htl0 : 26 ≤ tl.length ∧ tl.length ≤ 36 := by
    rw [← htl]
    split <;> decide
  refine q_asg (w := .val (.str (tx tl))) (ev_if (et_test (ev_eqI (ev_var rfl) ev_int)) (fun hb => (ev_var rfl).to (by rw [← htl, if_pos hb])) (fun hb => (ev_var rfl).to (by rw [← htl, if_neg (by rw [hb]; exact Bool.false_ne_true)]))) ?_
  have hp6 := tk_ok hp5 (m := 36) (by decide)
  refine q_asg (ev_take (kr := []) (ev_var rfl) ev_int (hp5.up (by omega)) (by decide) (by decide)) ?_
  have t8 := tk_lt q5.2 (m := 36) (by decide)
  generalize tk q5.2 36 = q3 at *
  have hp7 := tk_ok hp6 (m := 3) (by decide)
  refine q_when (et_test (ev_eqI (ev_take (kr := []) (ev_var rfl) ev_int (hp6.up (by omega)) (by decide) (by decide)) ev_int)) (fun _ => ?_) (fun _ => ?_)
  · refine g_retR hR (evr_lc (ei_range1 (ea1 (ev_var rfl)) (by omega) (by omega)) (by decide) (by rw [List.length_map, List.length_range]; omega) (fun i acc k => ∃ ss p', acc = stD ss ∧ k = [(a, .lst (Pl.ds p'))] ∧ p'.Ok (n + 12 + i) ∧ ss.length = i ∧ (∀ s ∈ ss, isNm s = true) ∧ ∀ (j : Nat) (s : Str), ss[j]? = some s → s.cps.toList[0]? = letL[((q3.1 + 3 * (j : Int)) % 26).toNat]?) ⟨[], _, rfl, rfl, hp7.up (by omega), rfl, (fun s h => by cases h), fun j s h => by simp at h⟩ (fun i acc k _ => ⟨trivial, fun _ => trivial⟩) (fun i w acc k hw ⟨ss, p', e1, e2, hp', hl2, hs, hk⟩ => ?_)) (fun nd k ⟨acc, e0, ss, p', e1, e2, hp', hl2, hs, hk⟩ => ?_)
    · subst e1 e2
      have hi : i < m.toNat := by
        have := (List.getElem?_eq_some_iff.mp hw).1
        rwa [List.length_map, List.length_range] at this
      have hw2 : w = .val (.int (i : Int)) := by
        rw [List.getElem?_map, List.getElem?_range hi] at hw
        cases hw
        rfl
      subst hw2
      have hz : 0 ≤ (q3.1 + 3 * (i : Int)) % 26 := Int.emod_nonneg _ (by decide)
      have hz2 : (q3.1 + 3 * (i : Int)) % 26 < 26 := Int.emod_lt_of_pos _ (by decide)
      obtain ⟨c, hc, hm2⟩ := sgn_at (l := letL) hz (by rw [let_len]; exact hz2)
      have t6 := tk_lt p' (m := 8) (by decide)
      refine .inr ⟨_, _, .str (tx ([c] ++ st.take (tk p' 8).1.toNat)), et_yes, (ev_addT (ev_ixT (ev_var rfl) (ev_modI (ev_addI (ev_var rfl) (ev_mulL ev_int (ev_var rfl))) ev_int (by decide)) (by decide) hc) ((ev_slX (ev_var rfl) eo_none (eo_some (ev_take (kr := []) (ev_var rfl) ev_int (hp'.up (by omega)) (by decide) (by decide))) (by omega)).to (congrArg (fun z => W.val (.str (tx z))) (cut_to' t6.1))) (by rw [List.length_take]; simp; omega)), ss ++ [tx ([c] ++ st.take (tk p' 8).1.toNat)], _, stD_app ss [_], rfl, (tk_ok hp' (by decide)).up (by push_cast; omega), by rw [List.length_append, hl2]; rfl, fun s h => ?_, key_snoc hk (by rw [hl2, at_get hz hc]; rfl)⟩
      rcases List.mem_append.mp h with h | h
      · exact hs s h
      · rw [List.mem_singleton.mp h]
        refine nm_of ⟨c, rfl, hm2⟩ (fun x hx => ?_) ?_
        · rcases List.mem_append.mp hx with hx | hx
          · rw [List.mem_singleton.mp hx]; exact List.mem_append_left _ hm2
          · exact hl.sg x (List.mem_of_mem_take hx)
        · rw [List.length_append, List.length_take]
          simp
          omega
    · subst e1 e2
      rw [List.length_map, List.length_range] at hl2 hp'
      refine ⟨_, e0, ss, p', rfl, rfl, hp'.up (by omega), hl2, hs, key_nd hk fun i j h1 h2 => nd_inj let_nd ?_ ?_⟩
      · rw [let_len]; omega
      · omega
  refine q_asgN (evn_lst (ds := []) ea_nil (by decide)) (fun b => ?_)
  refine q_forn (ei_range1 (ea1 (ev_var rfl)) (by omega) (by omega)) (fun i ro ka => ∃ ss v v2, ro = [some (.val (.adr a)), some (.val (.int m)), some (.val (.str (tx letL))), some (.val (.str (tx (letL ++ digL)))), some (.val (.str (tx st))), v, some (.val (.int q5.1)), some (.val (.str (tx tl))), some (.val (.int q3.1)), some (.val (.adr b)), v2] ∧ ka = [(a, .lst (Pl.ds (tk q3.2 3).2)), (b, .lst (stD ss))] ∧ ss.length = i ∧ (∀ s ∈ ss, isNm s = true) ∧ ∀ (j : Nat) (s : Str), ss[j]? = some s → s.cps.toList[q5.1.toNat]? = tl[((q3.1 + 7 * (j : Int)) % (tl.length : Int)).toNat]?)
    ⟨[], _, none, rfl, rfl, rfl, (fun s h => by cases h), fun j s h => by simp at h⟩ (fun i ro ka _ => trivial) (fun i w ro2 ka2 ta' hw ⟨ss, v, v2, e1, e2, hl2, hs, hk⟩ => ?_) (fun ro2 ka2 ta' ⟨ss, v, v2, e1, e2, hl2, hs, hk⟩ _ => ?_)
  · subst e1 e2
    have hi : i < m.toNat := by
      have := (List.getElem?_eq_some_iff.mp hw).1
      rwa [List.length_map, List.length_range] at this
    have hw2 : w = .val (.int (i : Int)) := by
      rw [List.getElem?_map, List.getElem?_range hi] at hw
      cases hw
      rfl
    subst hw2
    have hz : 0 ≤ (q3.1 + 7 * (i : Int)) % (tl.length : Int) := Int.emod_nonneg _ (by omega)
    have hz2 : (q3.1 + 7 * (i : Int)) % (tl.length : Int) < tl.length := Int.emod_lt_of_pos _ (by omega)
    obtain ⟨c, hc, hm2⟩ := sgn_at (l := tl) hz hz2
    have hpl : q5.1 ≤ st.length := by omega
    refine q_asg (ev_ixT (ev_var rfl) (ev_modI (ev_addI (ev_var rfl) (ev_mulL ev_int (ev_var rfl))) (ev_lenX (ev_var rfl) (by omega)) (by omega)) (by omega) hc) ?_
    refine g_app (j0 := 1) (j := 1) (d := .str (tx (st.take q5.1.toNat ++ [c] ++ st.drop q5.1.toNat))) (ev_var rfl) rfl ((ev_addT (ev_addT (ev_slX (ev_var rfl) eo_none (eo_some (ev_var rfl)) (by omega)) (ev_var rfl) ?_) (ev_slX (ev_var rfl) (eo_some (ev_var rfl)) eo_none (by omega)) ?_).to ?_) rfl (by rw [stD_len]; omega) (g_jp ⟨ss ++ [tx (st.take q5.1.toNat ++ [c] ++ st.drop q5.1.toNat)], _, _, rfl, ?_, by rw [List.length_append, hl2]; rfl, fun s h => ?_, key_snoc hk ?_⟩)
    · have := cut_len st none (some q5.1)
      simp
      omega
    · have h1 := cut_len st none (some q5.1)
      have h2 := cut_len st (some q5.1) none
      rw [List.length_append]
      simp
      omega
    · rw [cut_to' t7.1, cut_from t7.1 hpl]
    · exact congrArg (fun z => [(a, Nd.lst (Pl.ds (tk q3.2 3).2)), (b, Nd.lst z)]) (stD_app ss [_])
    · rcases List.mem_append.mp h with h | h
      · exact hs s h
      · rw [List.mem_singleton.mp h]
        refine nm_put hl (by omega) (by omega) (fun h0 => ?_) ?_
        · have : (q5.1 == 0) = true := beq_iff_eq.mpr (by omega)
          rw [if_pos this] at htl
          rw [htl]
          exact hm2
        · rw [← htl] at hm2
          split at hm2
          · exact List.mem_append_left _ hm2
          · exact hm2
    · rw [hl2, at_get hz hc, tx_cps, List.append_assoc, List.getElem?_append_right (by rw [List.length_take]; omega), List.length_take, Nat.min_eq_left (by omega), Nat.sub_self]
      rfl
  · subst e1 e2
    rw [List.length_map, List.length_range] at hl2
    have hnd : ss.Nodup := key_nd hk fun i j h1 h2 => by
      have hl36 : tl = letL ∨ tl = letL ++ digL := by
        rw [← htl]
        split
        · exact .inl rfl
        · exact .inr rfl
      rcases hl36 with q | q
      · subst q
        rw [let_len]
        exact nd_inj let_nd (by rw [let_len]; omega) (by omega)
      · rw [q, sig_len]
        exact nd_inj sig_nd (by rw [sig_len]; omega) (by omega)
    exact Gp.frz (i := 9) (j := 1) rfl rfl (g_ret hR (ev_var rfl) ⟨ss, _, rfl, rfl, hp7.up (by omega), hl2, hs, hnd⟩)
end
def ct_law_mixed (K : PySem.W.Frag) : Ct := Ct2 fun s b ka out => ∃ a p n ds, s = .val (.adr a) ∧ b = .val (.lst ds) ∧ ka = [(a, .lst (Pl.ds p))] ∧ p.Ok n ∧ 0 ≤ n ∧ n ≤ 900000 ∧ ds.length ≤ 1000 ∧
  ((out = fun o k => ∃ es p', o = .ret (.lst es) ∧ k = [(a, .lst (Pl.ds p'))] ∧ p'.Ok (n + ds.length) ∧ es.Perm ds) ∨ out = fun o k => ∃ c es p', o = .ret (.adr c) ∧ k = [(a, .lst (Pl.ds p')), (c, .lst es)] ∧ p'.Ok (n + ds.length) ∧ es.Perm ds)
section
variable {P : Program} {w : World} {K : PySem.W.Frag} {mg : Str → Option Value} {base : Heap}
theorem ok_law_mixed (T : Tx K mg) (F_law_take : Fn P w K mg base 4 (He.ga K "_law_take") ["_law_pool_here", "_law_many_here"] (ct_law_take K)) : Fn P w K mg base 6 (He.ga K "_law_mixed") ["_law_pool_here", "_law_things"] (ct_law_mixed K) := by
  obtain ⟨fd, F⟩ := T.d_law_mixed
  refine fn_ok F sc_law_mixed (fun _ _ _ _ _ _ us hl => match us, hl with | [_, _], _ => rfl) ct2_len (fun cdv A outer s H E hr => ⟨_, (pss_cons (ps_set (i := 2) sc_law_mixed.nd rfl (by first | exact Or.inl rfl | exact Or.inr rfl) (pe_callTy call_lstU rfl T.n_list (by decide +kernel) (pa_cons (pv 1) pa_nil)))
      (pss_cons (ps_set (i := 3) sc_law_mixed.nd rfl (by first | exact Or.inl rfl | exact Or.inr rfl) (pe_lst pa_nil))
      (pss_cons (ps_for (passes_of rfl) rfl (pi_range1 rfl T.n_range (pa_cons (pe_callB call_lenU rfl T.n_len (by decide +kernel) (pa_cons (pv 1) pa_nil)) pa_nil)) (pg_name (i := 4) sc_law_mixed.nd rfl (by first | exact Or.inl rfl | exact Or.inr rfl)) (pss_cons (ps_set (i := 5) sc_law_mixed.nd rfl (by first | exact Or.inl rfl | exact Or.inr rfl) (pe_call (F_law_take.up (by decide)).ok hr rfl T.g_law_take.1 T.g_law_take.2 (F_law_take.up (by decide)).bn .nil (pass_own rfl rfl rfl rfl) (pa_cons (pv 0) (pa_cons (pe_callB call_lenU rfl T.n_len (by decide +kernel) (pa_cons (pv 2) pa_nil)) pa_nil))))
      (pss_cons (ps_expr (pe_bm PySem.F.plainAttrs_list PySem.F.slot_list_append PySem.F.type_list_append mt_append (pv 3) (pa_cons (pe_ix ix_seq (pv 2) (pv 5) fun _ _ => rfl) pa_nil)))
      (pss_one (ps_set (i := 2) sc_law_mixed.nd rfl (by first | exact Or.inl rfl | exact Or.inr rfl) (pe_op op_addU (pe_slice sl_U (pv 2) po_none (po_some (pv 5))) (pe_slice sl_U (pv 2) (po_some (pe_op op_addU (pv 5) pe_int)) po_none)))))))
      (pss_one (ps_ret (pv 3)))))), fun ws ka out B F0 Q hC hR hX => ?_⟩)
  obtain ⟨s1, b1, rfl, a, p, n, ds, rfl, rfl, rfl, hp, hn0, hn, hl, ho⟩ := hC
  refine q_asg (evn_cb (ea1 (ev_var rfl)) (rcn_lst .vl (.inl rfl))).lst ?_
  refine q_asgN (evn_lst (ds := []) ea_nil (by decide)) (fun b => ?_)
  refine q_forn (ei_range1 (ea1 (ev_len (ev_var rfl) .vl)) (by omega) (by omega)) (fun i ro ka => ∃ ls ms p' v v2, ro = [some (.val (.adr a)), some (.val (.lst ds)), some (.val (.lst ls)), some (.val (.adr b)), v, v2] ∧ ka = [(a, .lst (Pl.ds p')), (b, .lst ms)] ∧ p'.Ok (n + i) ∧ ms.length = i ∧ (ms ++ ls).Perm ds)
    ⟨ds, [], p, none, none, rfl, rfl, hp.up (by omega), rfl, List.Perm.refl _⟩ (fun i ro ka _ => trivial) (fun i w ro2 ka2 ta' hw ⟨ls, ms, p', v, v2, e1, e2, hp', hm, hpm⟩ => ?_) (fun ro2 ka2 ta' ⟨ls, ms, p', v, v2, e1, e2, hp', hm, hpm⟩ _ => ?_)
  · subst e1 e2
    have hi : i < ds.length := by
      have := (List.getElem?_eq_some_iff.mp hw).1
      rw [List.length_map, List.length_range] at this
      omega
    have hlen : i + ls.length = ds.length := by rw [← hm, ← List.length_append, hpm.length_eq]
    have t1 := tk_lt p' (m := (ls.length : Int)) (by omega)
    refine q_asg (ev_take (kr := [(b, .lst ms)]) (ev_var rfl) (ev_len (ev_var rfl) .vl) (hp'.up (by omega)) (by omega) (by omega)) ?_
    have o1 := tk_ok hp' (m := (ls.length : Int)) (by omega)
    generalize tk p' (ls.length : Int) = q at *
    have hlt : q.1.toNat < ls.length := by omega
    refine q_app (j0 := 1) (j := 1) (d := ls[q.1.toNat]) (ev_var rfl) rfl (ev_ixV (ev_var rfl) (ev_var rfl) .vl (atZ t1.1 (List.getElem?_eq_getElem hlt))) rfl (by omega) ?_
    refine g_asg (evn_op (evn_sl (ev_var rfl) eo_none (eo_some (ev_var rfl)) .vl).lst (evn_sl (ev_var rfl) (eo_some (ev_addI (ev_var rfl) ev_int)) eo_none .vl).lst (rvn_cat (b1 := false) (b2 := false) .vl .vl ?_)).lst (g_jp ⟨_, _, q.2, _, _, rfl, rfl, o1.up (by push_cast; omega), by rw [List.length_append, hm]; rfl, ?_⟩)
    · have h1 := cut_len ls none (some q.1)
      have h2 := cut_len ls (some (q.1 + 1)) none
      omega
    · rw [cut_to' t1.1, cut_from (by omega) (by omega)]
      have e3 : ls = ls.take q.1.toNat ++ ls[q.1.toNat] :: ls.drop (q.1.toNat + 1) := by rw [List.getElem_cons_drop, List.take_append_drop]
      have e4 : (q.1 + 1).toNat = q.1.toNat + 1 := by omega
      rw [e4, List.append_assoc]
      refine List.Perm.trans (List.Perm.append_left ms ?_) hpm
      exact (List.perm_middle (l₁ := ls.take q.1.toNat) (l₂ := ls.drop (q.1.toNat + 1)) (a := ls[q.1.toNat])).symm.trans (List.Perm.of_eq e3.symm)
  · subst e1 e2
    rw [List.length_map, List.length_range] at hp' hm
    have h0 : ls = [] := by
      have := hpm.length_eq
      rw [List.length_append] at this
      exact List.eq_nil_of_length_eq_zero (by omega)
    subst h0
    rw [List.append_nil] at hpm
    rcases ho with rfl | rfl
    · exact Gp.frz (i := 3) (j := 1) rfl rfl (g_ret hR (ev_var rfl) ⟨ms, p', rfl, rfl, hp'.up (by omega), hpm⟩)
    · exact g_ret hR (ev_var rfl) ⟨b, ms, p', rfl, rfl, hp'.up (by omega), hpm⟩
end
theorem rwD_len (es : List Ln) : (rwD es).length = es.length := List.length_map _
theorem rwD_app (es fs : List Ln) : rwD (es ++ fs) = rwD es ++ rwD fs := List.map_append
/-- names as drawn for lanes -/
structure ToOk (ts : List Str) (m : Nat) : Prop where
  nm : ∀ s ∈ ts, isNm s = true
  nd : ts.Nodup
  le : ts.length ≤ m
  ge : min m 8 ≤ ts.length
/-- rows so far: their names stand in order among the first i told ones -/
structure FoOk (ps ts : List Str) (fs : List Ln) (i : Nat) : Prop where
  sub : (lnN fs).Sublist (ts.take i)
  st : ∀ r ∈ fs, r.2.1 ∈ ps ∧ r.2.2 ∈ ps
theorem FoOk.skip {ps ts : List Str} {fs : List Ln} {i : Nat} (h : FoOk ps ts fs i) : FoOk ps ts fs (i + 1) := ⟨h.sub.trans (List.take_sublist_take_left (Nat.le_succ i)), h.st⟩
theorem FoOk.add {ps ts : List Str} {fs : List Ln} {i : Nat} (h : FoOk ps ts fs i) {x p q : Str} (hx : ts[i]? = some x) (hp : p ∈ ps) (hq : q ∈ ps) : FoOk ps ts (fs ++ [(x, p, q)]) (i + 1) := by
  refine ⟨?_, fun r hr => ?_⟩
  · rw [take_succ_some hx]
    have e : lnN (fs ++ [(x, p, q)]) = lnN fs ++ [x] := List.map_append
    rw [e]
    exact h.sub.append (List.Sublist.refl _)
  · rcases List.mem_append.mp hr with hr | hr
    · exact h.st r hr
    · rw [List.mem_singleton.mp hr]; exact ⟨hp, hq⟩
theorem FoOk.len {ps ts : List Str} {fs : List Ln} {i : Nat} (h : FoOk ps ts fs i) : fs.length ≤ ts.length := by
  have := h.sub.length_le
  rw [lnN_len, List.length_take] at this
  omega
theorem rwD_perm : ∀ {fs : List Ln} {ds : List D}, ds.Perm (rwD fs) → ∃ es : List Ln, ds = rwD es ∧ es.Perm fs := fun {fs ds} h => by
  have key : ∀ (l : List D) (m : List D), l.Perm m → ∀ fs : List Ln, m = rwD fs → ∃ es : List Ln, l = rwD es ∧ es.Perm fs := by
    intro l m h
    induction h with
    | nil =>
      intro fs e
      cases fs with
      | nil => exact ⟨[], rfl, List.Perm.refl _⟩
      | cons _ _ => cases e
    | cons x _ ih =>
      intro fs e
      cases fs with
      | nil => cases e
      | cons r fs =>
        obtain ⟨e1, e2⟩ := List.cons.inj e
        obtain ⟨es, h1, h2⟩ := ih fs e2
        exact ⟨r :: es, by rw [h1, e1]; rfl, h2.cons r⟩
    | swap x y l =>
      intro fs e
      match fs, e with
      | r :: r2 :: fs, e =>
        obtain ⟨e1, e2⟩ := List.cons.inj e
        obtain ⟨e3, e4⟩ := List.cons.inj e2
        exact ⟨r2 :: r :: fs, by rw [e1, e3, e4]; rfl, List.Perm.swap _ _ _⟩
    | trans _ _ ih1 ih2 =>
      intro fs e
      obtain ⟨es, h1, h2⟩ := ih2 fs e
      obtain ⟨es2, h3, h4⟩ := ih1 es h1
      exact ⟨es2, h3, h4.trans h2⟩
  exact key ds _ h fs rfl
theorem lnN_perm {es fs : List Ln} (h : es.Perm fs) : (lnN es).Perm (lnN fs) := h.map _
/-! ### what a post reaches -/
inductive Rch (es : List Ln) (p : Str) : Str → Prop where
  | refl : Rch es p p
  | step {x : Str} {r : Ln} (h : Rch es p x) (m : r ∈ es) (e : r.2.1 = x) : Rch es p r.2.2
/-- the lanes ls lead from p to q -/
def Wk (es : List Ln) (p : Str) : List Str → Str → Prop
  | [], q => p = q
  | l :: ls, q => ∃ r ∈ es, r.1 = l ∧ r.2.1 = p ∧ Wk es r.2.2 ls q
theorem Wk.snoc {es : List Ln} {r : Ln} (m : r ∈ es) : ∀ {ls : List Str} {p : Str}, Wk es p ls r.2.1 → Wk es p (ls ++ [r.1]) r.2.2
  | [], p, h => ⟨r, m, rfl, (show p = r.2.1 from h).symm, rfl⟩
  | l :: ls, p, ⟨r', m', e1, e2, h⟩ => ⟨r', m', e1, e2, Wk.snoc m h⟩
theorem Wk.rch {es : List Ln} {s : Str} : ∀ {ls : List Str} {p q : Str}, Rch es s p → Wk es p ls q → Rch es s q
  | [], p, q, a, h => (show p = q from h) ▸ a
  | l :: ls, p, q, a, ⟨r, m, _, e2, h⟩ => Wk.rch (Rch.step (x := p) a m e2) h
/-- the way that wy has to p -/
def lsOf (wy : List (Str × List Str)) (p : Str) : List Str := ((wy.find? fun e => decide (e.1 = p)).map (·.2)).getD []
/-- one lane looked at from cur -/
def wStp (cur : Str) (wy : List (Str × List Str)) (r : Ln) : List (Str × List Str) := if r.2.1 = cur ∧ ¬ r.2.2 ∈ keysT wy then wy ++ [(r.2.2, lsOf wy cur ++ [r.1])] else wy
/-- the search: n posts may still be looked at, the next one is the a-th, its first j lanes are done -/
def bfsJ (es : List Ln) : Nat → Nat → Nat → List (Str × List Str) → List (Str × List Str)
  | 0, _, _, wy => wy
  | n + 1, a, j, wy => match (keysT wy)[a]? with
    | some cur => bfsJ es n (a + 1) 0 ((es.drop j).foldl (wStp cur) wy)
    | none => wy
def wyAll (ps : List Str) (es : List Ln) (s : Str) : List (Str × List Str) := bfsJ es ps.length 0 0 [(s, [])]
theorem lsOf_of {wy : List (Str × List Str)} (hn : (keysT wy).Nodup) {p : Str} {ls : List Str} (h : (p, ls) ∈ wy) : lsOf wy p = ls := by
  unfold lsOf
  induction wy with
  | nil => cases h
  | cons x l ih =>
    have hn2 := List.nodup_cons.mp hn
    rw [List.find?_cons]
    rcases List.mem_cons.mp h with e | h
    · rw [← e, decide_eq_true rfl]
      rfl
    · have ne : ¬ x.1 = p := fun z => hn2.1 (by show x.1 ∈ _; rw [z]; exact List.mem_map.mpr ⟨_, h, rfl⟩)
      rw [decide_eq_false ne]
      exact ih hn2.2 h
theorem bfsJ_skip {es : List Ln} {n a j : Nat} {wy : List (Str × List Str)} {r : Ln} (hr : es[j]? = some r) (h : ∀ cur, (keysT wy)[a]? = some cur → wStp cur wy r = wy) : bfsJ es n a (j + 1) wy = bfsJ es n a j wy := by
  cases n with
  | zero => rfl
  | succ n =>
    unfold bfsJ
    cases hc : (keysT wy)[a]? with
    | none => rfl
    | some cur =>
      have e : es.drop j = r :: es.drop (j + 1) := by
        obtain ⟨hj, rfl⟩ := List.getElem?_eq_some_iff.mp hr
        rw [List.getElem_cons_drop]
      dsimp only
      rw [e, List.foldl_cons, h cur hc]
theorem bfsJ_add {es : List Ln} {n a j : Nat} {wy : List (Str × List Str)} {r : Ln} {cur : Str} (hr : es[j]? = some r) (hc : (keysT wy)[a]? = some cur) (h1 : r.2.1 = cur) (h2 : ¬ r.2.2 ∈ keysT wy) : bfsJ es n a (j + 1) (wy ++ [(r.2.2, lsOf wy cur ++ [r.1])]) = bfsJ es n a j wy ∨ n = 0 := by
  cases n with
  | zero => exact .inr rfl
  | succ n =>
    refine .inl ?_
    have e : es.drop j = r :: es.drop (j + 1) := by
      obtain ⟨hj, rfl⟩ := List.getElem?_eq_some_iff.mp hr
      rw [List.getElem_cons_drop]
    have hlt := (List.getElem?_eq_some_iff.mp hc).1
    have hc2 : (keysT (wy ++ [(r.2.2, lsOf wy cur ++ [r.1])]))[a]? = some cur := by
      rw [keys_app, List.getElem?_append_left hlt]
      exact hc
    unfold bfsJ
    rw [hc, hc2]
    dsimp only
    rw [e, List.foldl_cons]
    have : wStp cur wy r = wy ++ [(r.2.2, lsOf wy cur ++ [r.1])] := if_pos ⟨h1, h2⟩
    rw [this]
theorem bfsJ_next {es : List Ln} {n a : Nat} {wy : List (Str × List Str)} {cur : Str} (hc : (keysT wy)[a]? = some cur) : bfsJ es (n + 1) a es.length wy = bfsJ es n (a + 1) 0 wy := by
  rw [bfsJ, hc]
  dsimp only
  rw [List.drop_length]
  rfl
theorem bfsJ_end {es : List Ln} {n a j : Nat} {wy : List (Str × List Str)} (hc : (keysT wy)[a]? = none) : bfsJ es n a j wy = wy := by
  cases n with
  | zero => rfl
  | succ n => rw [bfsJ, hc]
/-- wy: of each post that s reaches a walk from s to it -/
structure WyOk (ps : List Str) (es : List Ln) (s : Str) (wy : List (Str × List Str)) : Prop where
  eq : wy = wyAll ps es s
  nd : (keysT wy).Nodup
  wk : ∀ p ls, (p, ls) ∈ wy → Wk es s ls p ∧ ls.length ≤ wy.length
  all : ∀ p, p ∈ keysT wy ↔ Rch es s p
/-- on the way: the first at ones are done, of the next one the first j lanes -/
structure WyIn (ps : List Str) (es : List Ln) (s : Str) (at' j : Nat) (wy : List (Str × List Str)) : Prop where
  nd : (keysT wy).Nodup
  sub : ∀ p ∈ keysT wy, p ∈ ps
  st : s ∈ keysT wy
  wk : ∀ p ls, (p, ls) ∈ wy → Wk es s ls p ∧ ls.length ≤ wy.length
  le : at' ≤ wy.length
  done : ∀ i, i < at' → ∀ p, (keysT wy)[i]? = some p → ∀ r ∈ es, r.2.1 = p → r.2.2 ∈ keysT wy
  cur : ∀ p, (keysT wy)[at']? = some p → ∀ i r, i < j → es[i]? = some r → r.2.1 = p → r.2.2 ∈ keysT wy
  run : bfsJ es (ps.length - at') at' j wy = wyAll ps es s
theorem WyIn.len {ps : List Str} {es : List Ln} {s : Str} {a j : Nat} {wy : List (Str × List Str)} (h : WyIn ps es s a j wy) : wy.length ≤ ps.length := by
  have := sub_len h.nd h.sub
  rwa [List.length_map] at this
/-- a lane that leads to a post there already, or that starts elsewhere -/
theorem WyIn.skip {ps : List Str} {es : List Ln} {s : Str} {a j : Nat} {wy : List (Str × List Str)} (h : WyIn ps es s a j wy) {r : Ln} (hr : es[j]? = some r) (c : ∀ p, (keysT wy)[a]? = some p → r.2.1 = p → r.2.2 ∈ keysT wy) : WyIn ps es s a (j + 1) wy :=
  ⟨h.nd, h.sub, h.st, h.wk, h.le, h.done, fun p hp i r' hi hr' e => by
    by_cases q : i = j
    · subst q
      rw [hr] at hr'
      cases hr'
      exact c p hp e
    · exact h.cur p hp i r' (by omega) hr' e, (bfsJ_skip hr fun cur hc => if_neg fun z => z.2 (c cur hc z.1)).trans h.run⟩
/-- a lane that leads to a new post -/
theorem WyIn.add {ps : List Str} {es : List Ln} {s : Str} {a j : Nat} {wy : List (Str × List Str)} (h : WyIn ps es s a j wy) {r : Ln} (hr : es[j]? = some r) {ls : List Str} (hf : (r.2.1, ls) ∈ wy) (hcu : (keysT wy)[a]? = some r.2.1) (hn : ¬ r.2.2 ∈ keysT wy) (hp : r.2.2 ∈ ps) (hl : a < wy.length) : WyIn ps es s a (j + 1) (wy ++ [(r.2.2, ls ++ [r.1])]) := by
  have m := List.mem_of_getElem? hr
  have hk : keysT (wy ++ [(r.2.2, ls ++ [r.1])]) = keysT wy ++ [r.2.2] := keys_app _ _
  have up : ∀ {x}, x ∈ keysT wy → x ∈ keysT (wy ++ [(r.2.2, ls ++ [r.1])]) := fun hx => by rw [hk]; exact List.mem_append_left _ hx
  refine ⟨?_, fun p q => ?_, up h.st, fun p ms q => ?_, ?_, fun i hi p e r' m' e' => ?_, fun p e i r' hi hr' e' => ?_, ?_⟩
  · rw [hk, List.nodup_append]
    refine ⟨h.nd, List.nodup_cons.mpr ⟨List.not_mem_nil, List.nodup_nil⟩, fun x hx y hy z => hn ?_⟩
    rw [List.mem_singleton.mp hy] at z
    rw [← z]; exact hx
  · rw [hk] at q
    rcases List.mem_append.mp q with q | q
    · exact h.sub p q
    · rw [List.mem_singleton.mp q]; exact hp
  · rw [List.length_append, List.length_singleton]
    rcases List.mem_append.mp q with q | q
    · have := h.wk p ms q
      exact ⟨this.1, by omega⟩
    · have q' := List.mem_singleton.mp q
      cases q'
      have := h.wk _ _ hf
      exact ⟨this.1.snoc m, by rw [List.length_append, List.length_singleton]; omega⟩
  · rw [List.length_append]; have := h.le; omega
  · rw [hk, List.getElem?_append_left (by rw [List.length_map]; have := h.le; omega)] at e
    exact up (h.done i hi p e r' m' e')
  · rw [hk, List.getElem?_append_left (by rw [List.length_map]; exact hl)] at e
    by_cases q : i = j
    · subst q
      rw [hr] at hr'
      cases hr'
      rw [hk]
      exact List.mem_append_right _ (List.mem_singleton.mpr rfl)
    · exact up (h.cur p e i r' (by omega) hr' e')
  · have hw := h.len
    have hr3 := bfsJ_add (n := ps.length - a) hr hcu rfl hn
    rw [lsOf_of h.nd hf] at hr3
    exact (hr3.resolve_right (by omega)).trans h.run
theorem WyIn.next {ps : List Str} {es : List Ln} {s : Str} {a : Nat} {wy : List (Str × List Str)} (h : WyIn ps es s a es.length wy) (hl : a < wy.length) : WyIn ps es s (a + 1) 0 wy :=
  ⟨h.nd, h.sub, h.st, h.wk, hl, fun i hi p e r m e' => by
    by_cases q : i = a
    · subst q
      obtain ⟨k, hk, rfl⟩ := List.mem_iff_getElem.mp m
      exact h.cur p e k _ hk (List.getElem?_eq_getElem hk) e'
    · exact h.done i (by omega) p e r m e', fun _ _ _ _ z => absurd z (Nat.not_lt_zero _), by
    have hw := h.len
    have e1 : ps.length - a = ps.length - (a + 1) + 1 := by omega
    have h2 := h.run
    rw [e1, bfsJ_next (List.getElem?_eq_getElem (by rw [List.length_map]; exact hl))] at h2
    exact h2⟩
theorem WyIn.fin {ps : List Str} {es : List Ln} {s : Str} {j : Nat} {wy : List (Str × List Str)} (h : WyIn ps es s wy.length j wy) : WyOk ps es s wy := by
  refine ⟨(bfsJ_end (List.getElem?_eq_none (by rw [List.length_map]; exact Nat.le_refl _))).symm.trans h.run, h.nd, h.wk, fun p => ⟨fun q => ?_, fun q => ?_⟩⟩
  · obtain ⟨ls, hv⟩ := key_has q
    exact (h.wk _ _ hv).1.rch .refl
  · induction q with
    | refl => exact h.st
    | @step x r _ m e ih =>
      obtain ⟨i, hi⟩ := List.mem_iff_getElem?.mp ih
      have hlt := (List.getElem?_eq_some_iff.mp hi).1
      rw [List.length_map] at hlt
      exact h.done i hlt x hi r m e
theorem WyIn.ini {ps : List Str} {es : List Ln} {s : Str} (h : s ∈ ps) : WyIn ps es s 0 0 [(s, [])] := by
  refine ⟨List.nodup_cons.mpr ⟨List.not_mem_nil, List.nodup_nil⟩, fun p q => ?_, List.mem_singleton.mpr rfl, fun p ls q => ?_, Nat.zero_le _, fun i hi => absurd hi (Nat.not_lt_zero _), fun _ _ _ _ z => absurd z (Nat.not_lt_zero _), rfl⟩
  · rw [List.mem_singleton.mp q]; exact h
  · cases List.mem_singleton.mp q
    exact ⟨rfl, Nat.zero_le _⟩
theorem gD {xs : List Str} {k : Nat} (h : k < xs.length) : (stD xs)[k]? = some (.str (xs.getD k "")) ∧ xs.getD k "" ∈ xs ∧ xs[k]? = some (xs.getD k "") := by
  have e : xs.getD k "" = xs[k] := by rw [List.getD_eq_getElem?_getD, List.getElem?_eq_getElem h]; rfl
  rw [e]
  exact ⟨stD_get (List.getElem?_eq_getElem h), List.getElem_mem h, List.getElem?_eq_getElem h⟩
/-- the lane of a ring that starts at the post of a place -/
def rgR (ts ps : List Str) (i : Nat) : Ln := (ts.getD i "", ps.getD i "", ps.getD ((i + 1) % ps.length) "")
theorem rgR_fo {ts ps ev : List Str} (hs : ∀ p ∈ ps, p ∈ ev) (h0 : 0 < ps.length) (ht : ps.length ≤ ts.length) : ∀ k, k ≤ ps.length → FoOk ev ts ((List.range k).map (rgR ts ps)) k
  | 0, _ => ⟨List.nil_sublist _, fun r hr => by cases hr⟩
  | k + 1, h => by
    have ih := rgR_fo hs h0 ht k (by omega)
    rw [List.range_succ, List.map_append]
    exact ih.add (gD (by omega)).2.2 (hs _ (gD (by omega)).2.1) (hs _ (gD (Nat.mod_lt _ h0)).2.1)
/-- all posts of a ring lead to one another -/
theorem rgR_rch {ts ps : List Str} {es : List Ln} (h0 : 0 < ps.length) (h : ∀ i, i < ps.length → rgR ts ps i ∈ es) : ∀ q ∈ ps, ∀ q' ∈ ps, Rch es q q' := fun q hq q' hq' => by
  obtain ⟨i, hi, rfl⟩ := List.mem_iff_getElem.mp hq
  obtain ⟨j, hj, rfl⟩ := List.mem_iff_getElem.mp hq'
  have go : ∀ k, Rch es (ps.getD i "") (ps.getD ((i + k) % ps.length) "") := fun k => by
    induction k with
    | zero => rw [Nat.add_zero, Nat.mod_eq_of_lt hi]; exact .refl
    | succ k ih =>
      have := ih.step (h _ (Nat.mod_lt (i + k) h0)) rfl
      rw [show (i + (k + 1)) % ps.length = ((i + k) % ps.length + 1) % ps.length by rw [Nat.mod_add_mod]; rfl]
      exact this
  have := go (j + (ps.length - i))
  rw [show i + (j + (ps.length - i)) = j + ps.length by omega, Nat.add_mod_right, Nat.mod_eq_of_lt hj] at this
  rw [List.getD_eq_getElem?_getD, List.getElem?_eq_getElem hi, List.getD_eq_getElem?_getD, List.getElem?_eq_getElem hj] at this
  exact this
/-- nearly all posts lie on a ring -/
def RgOk (ps : List Str) (es : List Ln) : Prop := ∃ qs : List Str, qs ≠ [] ∧ (∀ q ∈ qs, q ∈ ps) ∧ ps.length ≤ qs.length + 1 ∧ (∀ q ∈ qs, ∀ q' ∈ qs, Rch es q q') ∧ ∀ q ∈ qs, ∃ r ∈ es, r.2.1 = q ∧ r.2.2 ∈ qs
theorem RgOk.lane {ps : List Str} {es : List Ln} (h : RgOk ps es) : ∃ r ∈ es, Rch es r.2.2 r.2.1 := by
  obtain ⟨qs, hne, _, _, h1, h2⟩ := h
  obtain ⟨q, hq⟩ := List.exists_mem_of_ne_nil _ hne
  obtain ⟨r, m, rfl, e⟩ := h2 q hq
  exact ⟨r, m, h1 _ e _ hq⟩
def ct_law_strong_net (K : PySem.W.Frag) : Ct := Ct3 fun s b c ka out => ∃ a p n m l, s = .val (.adr a) ∧ b = .val (.int m) ∧ c = .val (.int l) ∧ ka = [(a, .lst (Pl.ds p))] ∧ p.Ok n ∧ 0 ≤ n ∧ n ≤ 800000 ∧ 1 ≤ m ∧ m ≤ 10 ∧ m ≤ l ∧ l ≤ 26 ∧
  out = fun o k => ∃ ps es p', o = .ret (PtD ps es) ∧ k = [(a, .lst (Pl.ds p'))] ∧ p'.Ok (n + 300) ∧ PtOk ps es ∧ RgOk ps es ∧ (ps.length : Int) ≤ m + 1 ∧ (es.length : Int) ≤ l
section
variable {P : Program} {w : World} {K : PySem.W.Frag} {mg : Str → Option Value} {base : Heap}
theorem ok_law_strong_net (T : Tx K mg) (F_law_take : Fn P w K mg base 4 (He.ga K "_law_take") ["_law_pool_here", "_law_many_here"] (ct_law_take K)) (F_law_many : Fn P w K mg base 6 (He.ga K "_law_many") ["_law_pool_here", "_law_many_here"] (ct_law_many K)) (F_law_mixed : Fn P w K mg base 6 (He.ga K "_law_mixed") ["_law_pool_here", "_law_things"] (ct_law_mixed K)) : Fn P w K mg base 8 (He.ga K "_law_strong_net") ["_law_pool_here", "_law_most", "_law_lanes_here"] (ct_law_strong_net K) := by
  obtain ⟨fd, F⟩ := T.d_law_strong_net
  refine fn_ok F sc_law_strong_net (fun _ _ _ _ _ _ us hl => match us, hl with | [_, _, _], _ => rfl) ct3_len (fun cdv A outer s H E hr => ⟨_, (pss_cons (ps_set (i := 3) sc_law_strong_net.nd rfl (by first | exact Or.inl rfl | exact Or.inr rfl) (pe_call (F_law_many.up (by decide)).ok hr rfl T.g_law_many.1 T.g_law_many.2 (F_law_many.up (by decide)).bn .nil (pass_own rfl rfl rfl rfl) (pa_cons (pv 0) (pa_cons pe_int pa_nil))))
      (pss_cons (ps_set (i := 4) sc_law_strong_net.nd rfl (by first | exact Or.inl rfl | exact Or.inr rfl) (pe_slice sl_U (pv 3) po_none (po_some (pe_op op_addU pe_int (pe_call (F_law_take.up (by decide)).ok hr rfl T.g_law_take.1 T.g_law_take.2 (F_law_take.up (by decide)).bn .nil (pass_own rfl rfl rfl rfl) (pa_cons (pv 0) (pa_cons (pv 1) pa_nil)))))))
      (pss_cons (ps_set (i := 5) sc_law_strong_net.nd rfl (by first | exact Or.inl rfl | exact Or.inr rfl) (pe_call (F_law_many.up (by decide)).ok hr rfl T.g_law_many.1 T.g_law_many.2 (F_law_many.up (by decide)).bn .nil (pass_own rfl rfl rfl rfl) (pa_cons (pv 0) (pa_cons (pv 2) pa_nil))))
      (pss_cons (ps_if (pt_cmpR (op_eqP (by have := (hr).units; exact this)) (pe_call (F_law_take.up (by decide)).ok hr rfl T.g_law_take.1 T.g_law_take.2 (F_law_take.up (by decide)).bn .nil (pass_own rfl rfl rfl rfl) (pa_cons (pv 0) (pa_cons pe_int pa_nil))) pe_int (nomark _))
      (pss_one (ps_set (i := 5) sc_law_strong_net.nd rfl (by first | exact Or.inl rfl | exact Or.inr rfl) (pe_slice sl_U (pe_op op_addU (pv 4) (pe_lc (te := (tVar 6)) (tt := (tTest (tOp (rNiU K) (tVar 6) (tVar 4)))) (own := [("_law_name", 6)]) rfl sc_law_strong_net.nd (pi_seq (pv 5)) (blk_ok ["_law_pool_here", "_law_most", "_law_lanes_here", "_law_names", "_law_posts", "_law_told", "_law_name", "_law_found", "_law_k", "_law_every", "_law_start"] (defScope s_law_strong_net) rfl rfl (by decide +kernel)) (fun _ _ _ _ _ => (pg_name (i := 6) sc_law_strong_net.nd rfl (by first | exact Or.inl rfl | exact Or.inr rfl))) (fun _ _ _ _ _ => (pts_one (pt_cmpR op_niU (pv 6) (pv 4) (by with_unfolding_all rfl)))) (fun _ _ _ _ _ => (pv 6)))) po_none (po_some (pv 2)))))
      pss_nil)
      (pss_cons (ps_set (i := 7) sc_law_strong_net.nd rfl (by first | exact Or.inl rfl | exact Or.inr rfl) (pe_lst pa_nil))
      (pss_cons (ps_for (passes_of rfl) rfl (pi_range1 rfl T.n_range (pa_cons (pe_callB call_lenU rfl T.n_len (by decide +kernel) (pa_cons (pv 4) pa_nil)) pa_nil)) (pg_name (i := 8) sc_law_strong_net.nd rfl (by first | exact Or.inl rfl | exact Or.inr rfl)) (pss_one (ps_expr (pe_bm PySem.F.plainAttrs_list PySem.F.slot_list_append PySem.F.type_list_append mt_append (pv 7) (pa_cons (pe_tup (pa_cons (pe_ix ix_seq (pv 5) (pv 8) fun _ _ => rfl) (pa_cons (pe_ix ix_seq (pv 4) (pv 8) fun _ _ => rfl) (pa_cons (pe_ix ix_seq (pv 4) (pe_op op_mod (pe_op op_addU (pv 8) pe_int) (pe_callB call_lenU rfl T.n_len (by decide +kernel) (pa_cons (pv 4) pa_nil))) fun _ _ => rfl) pa_nil)))) pa_nil)))))
      (pss_cons (ps_set (i := 9) sc_law_strong_net.nd rfl (by first | exact Or.inl rfl | exact Or.inr rfl) (pe_callTy call_lstU rfl T.n_list (by decide +kernel) (pa_cons (pv 4) pa_nil)))
      (pss_cons (ps_if (pt_cmpR (op_eqP (by have := (hr).units; exact this)) (pe_call (F_law_take.up (by decide)).ok hr rfl T.g_law_take.1 T.g_law_take.2 (F_law_take.up (by decide)).bn .nil (pass_own rfl rfl rfl rfl) (pa_cons (pv 0) (pa_cons pe_int pa_nil))) pe_int (nomark _))
      (pss_one (ps_set (i := 9) sc_law_strong_net.nd rfl (by first | exact Or.inl rfl | exact Or.inr rfl) (pe_op op_addU (pv 4) (pe_lst (pa_cons (pe_ix ix_seq (pv 3) pe_int fun _ _ => rfl) pa_nil)))))
      pss_nil)
      (pss_cons (ps_for (passes_of rfl) rfl (pi_seq (pe_slice sl_U (pv 5) (po_some (pe_callB call_lenU rfl T.n_len (by decide +kernel) (pa_cons (pv 7) pa_nil))) po_none)) (pg_name (i := 6) sc_law_strong_net.nd rfl (by first | exact Or.inl rfl | exact Or.inr rfl)) (pss_one (ps_if (pt_cmpR op_gt (pe_call (F_law_take.up (by decide)).ok hr rfl T.g_law_take.1 T.g_law_take.2 (F_law_take.up (by decide)).bn .nil (pass_own rfl rfl rfl rfl) (pa_cons (pv 0) (pa_cons pe_int pa_nil))) pe_int (nomark _))
      (pss_cons (ps_set (i := 10) sc_law_strong_net.nd rfl (by first | exact Or.inl rfl | exact Or.inr rfl) (pe_ix ix_seq (pv 9) (pe_call (F_law_take.up (by decide)).ok hr rfl T.g_law_take.1 T.g_law_take.2 (F_law_take.up (by decide)).bn .nil (pass_own rfl rfl rfl rfl) (pa_cons (pv 0) (pa_cons (pe_callB call_lenU rfl T.n_len (by decide +kernel) (pa_cons (pv 9) pa_nil)) pa_nil))) fun _ _ => rfl))
      (pss_one (ps_expr (pe_bm PySem.F.plainAttrs_list PySem.F.slot_list_append PySem.F.type_list_append mt_append (pv 7) (pa_cons (pe_tup (pa_cons (pv 6) (pa_cons (pv 10) (pa_cons (pe_ix ix_seq (pv 9) (pe_call (F_law_take.up (by decide)).ok hr rfl T.g_law_take.1 T.g_law_take.2 (F_law_take.up (by decide)).bn .nil (pass_own rfl rfl rfl rfl) (pa_cons (pv 0) (pa_cons (pe_callB call_lenU rfl T.n_len (by decide +kernel) (pa_cons (pv 9) pa_nil)) pa_nil))) fun _ _ => rfl) pa_nil)))) pa_nil)))))
      pss_nil)))
      (pss_one (ps_ret (pe_lst (pa_cons (pv 9) (pa_cons (pe_call (F_law_mixed.up (by decide)).ok hr rfl T.g_law_mixed.1 T.g_law_mixed.2 (F_law_mixed.up (by decide)).bn .nil (pass_own rfl rfl rfl rfl) (pa_cons (pv 0) (pa_cons (pv 7) pa_nil))) pa_nil)))))))))))))), fun ws ka out B F0 Q hC hR hX => ?_⟩)
  obtain ⟨s1, b1, c1, rfl, a, p, n, m, l, rfl, rfl, rfl, rfl, hp, hn0, hn, hm1, hm, hml, hl, rfl⟩ := hC
  have hl0 : 0 ≤ l := by omega
  refine q_call (kr := []) (k1 := [(a, .lst (Pl.ds p))]) (ea2 (ev_var rfl) ev_int) ⟨_, _, rfl, a, p, n, 11, rfl, rfl, rfl, hp, hn0, by omega, by decide, by decide, rfl⟩ (fun o k ⟨ss, p', h, _⟩ => ⟨_, h⟩) ?_
  rintro _ _ ⟨ns, p1, e, rfl, hp1, hln, hnm, hnd⟩
  cases e
  have hln : ns.length = 11 := hln
  have t1 := tk_lt p1 (m := m) (by omega)
  have hp2 := tk_ok hp1 (m := m) (by omega)
  refine q_asg ((evn_sl (ev_var rfl) eo_none (eo_some (ev_addI ev_int (ev_take (kr := []) (ev_var rfl) (ev_var rfl) (hp1.up (by omega)) (by omega) (by omega)))) .vl).lst.to (congrArg (fun z => W.val (.lst z)) ((cut_to' (by omega)).trans (stD_take ns _)))) ?_
  generalize tk p1 m = q1 at *
  generalize hps : ns.take (1 + q1.1).toNat = ps
  have hpl : 1 ≤ ps.length ∧ (ps.length : Int) ≤ m ∧ ps.length ≤ 10 := by rw [← hps, List.length_take]; omega
  have hpn : ∀ s ∈ ps, isNm s = true := fun s hs => hnm s (List.mem_of_mem_take (hps ▸ hs))
  have hpd : ps.Nodup := hps ▸ (List.take_sublist _ _).nodup hnd
  have hx0 : ¬ ns.getD 10 "" ∈ ps := fun z => by
    rw [← hps] at z
    obtain ⟨i, hi, e⟩ := List.mem_take_iff_getElem.mp z
    rw [List.getD_eq_getElem?_getD, List.getElem?_eq_getElem (by omega : 10 < ns.length)] at e
    exact List.pairwise_iff_getElem.mp hnd i 10 (by omega) (by omega) (by omega) e
  have hx1 := gD (xs := ns) (k := 10) (by omega)
  generalize ns.getD 10 "" = x0 at *
  refine q_call (kr := []) (k1 := [(a, .lst (Pl.ds q1.2))]) (ea2 (ev_var rfl) (ev_var rfl)) ⟨_, _, rfl, a, q1.2, n + 51, l, rfl, rfl, rfl, hp2.up (by omega), by omega, by omega, hl0, hl, rfl⟩ (fun o k ⟨ss, p', h, _⟩ => ⟨_, h⟩) ?_
  rintro _ _ ⟨ts, p3, e, rfl, hp3, hts, htn, htd⟩
  cases e
  have hp4 := tk_ok hp3 (m := 3) (by decide)
  refine q_whenI (fun ro ka => ∃ (ts : List Str) (p' : Pl) (v : Option W), ro = [some (.val (.adr a)), some (.val (.int m)), some (.val (.int l)), some (.val (.lst (stD ns))), some (.val (.lst (stD ps))), some (.val (.lst (stD ts))), v, none, none, none, none] ∧ ka = [(a, .lst (Pl.ds p'))] ∧ p'.Ok (n + 102) ∧ ts.length = l.toNat ∧ (∀ s ∈ ts, isNm s = true) ∧ ts.Nodup)
    (et_test (ev_eqI (ev_take (kr := []) (ev_var rfl) ev_int (hp3.up (by omega)) (by decide) (by decide)) ev_int)) (fun hb nx k => ?t1) (fun hb => ⟨ts, _, none, rfl, rfl, hp4.up (by omega), hts, htn, htd⟩) (fun ro2 ka2 ⟨ts, p4, v, e1, e2, hp4, hts, htn, htd⟩ => ?go)
  case t1 =>
    have hmem : ∀ s, s ∈ ps ++ (ts.filter fun s => !decide (s ∈ ps)) → s ∈ ps ∨ s ∈ ts := fun s hs => (List.mem_append.mp hs).imp id fun z => (List.mem_filter.mp z).1
    have hnd2 : (ps ++ (ts.filter fun s => !decide (s ∈ ps))).Nodup := by
      rw [List.nodup_append]
      refine ⟨hpd, htd.filter _, fun x hx y hy z => ?_⟩
      have := (List.mem_filter.mp hy).2
      rw [Bool.not_eq_true', decide_eq_false_iff_not] at this
      exact this (z ▸ hx)
    have hsub : ts.length ≤ (ps ++ (ts.filter fun s => !decide (s ∈ ps))).length := sub_len htd fun x hx => by
      by_cases h : x ∈ ps
      · exact List.mem_append_left _ h
      · exact List.mem_append_right _ (List.mem_filter.mpr ⟨hx, by rw [decide_eq_false h]; rfl⟩)
    have hfl := List.length_filter_le (fun s => !decide (s ∈ ps)) ts
    refine g_asg ((evn_sl (w := .val (.lst (stD (ps ++ (ts.filter fun s => !decide (s ∈ ps)))))) ((evn_op (ev_var rfl) (evn_filt (xs := ts) (g := fun s => W.val (.str s)) (f := fun s => D.str s) (p := fun s => !decide (s ∈ ps)) (ei_strs (ev_var rfl)) (by decide) (by omega) ⟨trivial, fun _ => trivial⟩ (fun s hs => et_test (ev_niL (ev_var rfl) (ev_var rfl) .vl)) (fun s hs _ => ev_var rfl)).lst (rvn_cat (b1 := false) (b2 := false) .vl .vl (by rw [stD_len, List.length_map]; omega))).lst.to (congrArg (fun z => W.val (.lst z)) (stD_app ps _))) eo_none (eo_some (ev_var rfl)) .vl).lst.to (congrArg (fun z => W.val (.lst z)) ((cut_to' hl0).trans (stD_take _ _)))) (k _ _ ⟨_, _, _, rfl, rfl, hp4.up (by omega), ?_, fun s hs => ?_, (List.take_sublist _ _).nodup hnd2⟩)
    · rw [List.length_take]; omega
    · exact (hmem s (List.mem_of_mem_take hs)).elim (hpn s) (htn s)
  case go =>
  subst e1 e2
  have htl : ps.length ≤ ts.length := by omega
  refine q_asgN (evn_lst (ds := []) ea_nil (by decide)) (fun c => ?_)
  have hL1 : (0 : Int) < (((stD ps).length : Nat) : Int) := by rw [stD_len]; omega
  refine q_forn (ei_range1 (ea1 (ev_len (ev_var rfl) .vl)) (by rw [stD_len]; omega) (by rw [stD_len]; omega)) (fun i ro ka => ∃ (v8 : Option W), ro = [some (.val (.adr a)), some (.val (.int m)), some (.val (.int l)), some (.val (.lst (stD ns))), some (.val (.lst (stD ps))), some (.val (.lst (stD ts))), v, some (.val (.adr c)), v8, none, none] ∧ ka = [(a, .lst (Pl.ds p4)), (c, .lst (rwD ((List.range i).map (rgR ts ps))))])
    ⟨none, rfl, rfl⟩ (fun i ro ka _ => trivial) (fun i w ro2 ka2 ta' hw ⟨v8, e1, e2⟩ => ?l1) (fun ro2 ka2 ta' ⟨v8, e1, e2⟩ _ => ?go)
  case l1 =>
    subst e1 e2
    rw [List.getElem?_map] at hw
    obtain ⟨i', hi', rfl⟩ := Option.map_eq_some_iff.mp hw
    obtain ⟨hi1, hi2⟩ := List.getElem?_eq_some_iff.mp hi'
    rw [List.getElem_range] at hi2
    subst hi2
    rw [List.length_range, Int.toNat_natCast, stD_len] at hi1
    have hm2 : (i + 1) % ps.length < ps.length := Nat.mod_lt _ (by omega)
    refine g_app (j0 := 1) (j := 1) (d := rwL (rgR ts ps i)) (ev_var rfl) rfl (ev_tup (ds := [.str (ts.getD i ""), .str (ps.getD i ""), .str (ps.getD ((i + 1) % ps.length) "")]) (ea3 (ev_ixV (ev_var rfl) (ev_var rfl) .vl (atI_nat (gD (by omega)).1)) (ev_ixV (ev_var rfl) (ev_var rfl) .vl (atI_nat (gD hi1).1)) (ev_ixV (ev_var rfl) ((ev_modI (ev_addI (ev_var rfl) ev_int) (ev_len (ev_var rfl) .vl) hL1).to (w' := .val (.int (((i + 1) % ps.length : Nat) : Int))) (by rw [stD_len]; push_cast; rfl)) .vl (atI_nat (gD hm2).1))) (show 3 ≤ 100000 by decide)) rfl (by rw [rwD_len, List.length_map, List.length_range]; omega)
      (g_jp ⟨_, rfl, ?_⟩)
    rw [List.range_succ, List.map_append, rwD_app]
    rfl
  case go =>
  subst e1 e2
  rw [List.length_map, List.length_range, Int.toNat_natCast, stD_len]
  refine q_asg (evn_cb (ea1 (ev_var rfl)) (rcn_lst .vl (.inl rfl))).lst ?_
  refine q_whenI (fun ro ka => ∃ (ev : List Str) (p' : Pl), ro = [some (.val (.adr a)), some (.val (.int m)), some (.val (.int l)), some (.val (.lst (stD ns))), some (.val (.lst (stD ps))), some (.val (.lst (stD ts))), v, some (.val (.adr c)), v8, some (.val (.lst (stD ev))), none] ∧ ka = [(a, .lst (Pl.ds p')), (c, .lst (rwD ((List.range ps.length).map (rgR ts ps))))] ∧ p'.Ok (n + 103) ∧ (∀ s ∈ ev, isNm s = true) ∧ ev.Nodup ∧ (∀ s ∈ ps, s ∈ ev) ∧ ev.length ≤ ps.length + 1 ∧ 1 ≤ ev.length)
    (et_test (ev_eqI (ev_take (kr := [(c, .lst (rwD ((List.range ps.length).map (rgR ts ps))))]) (ev_var rfl) ev_int (hp4.up (by omega)) (by decide) (by decide)) ev_int)) (fun hb nx k => ?t2) (fun hb => ⟨ps, _, rfl, rfl, (tk_ok hp4 (by decide)).up (by omega), hpn, hpd, fun s h => h, by omega, hpl.1⟩) (fun ro2 ka2 ⟨ev, p5, e1, e2, hp5, hen, hed, hps2, hel, hel1⟩ => ?go)
  case t2 =>
    refine g_asg ((evn_op (ev_var rfl) (evn_lst (ds := [.str x0]) (ea1 (ev_ixV (ev_var rfl) ev_int .vl (atI_nat (j := 10) hx1.1))) (show 1 ≤ 100000 by decide)).lst (rvn_cat (b1 := false) (b2 := false) .vl .vl (by rw [stD_len, List.length_singleton]; omega))).lst.to (congrArg (fun z => W.val (.lst z)) (stD_app ps [x0]))) (k _ _ ⟨ps ++ [x0], _, rfl, rfl, (tk_ok hp4 (by decide)).up (by omega), fun s hs => ?_, ?_, fun s h => List.mem_append_left _ h, by rw [List.length_append, List.length_singleton]; omega, by rw [List.length_append, List.length_singleton]; omega⟩)
    · rcases List.mem_append.mp hs with h | h
      · exact hpn s h
      · rw [List.mem_singleton.mp h]; exact hnm _ hx1.2.1
    · rw [List.nodup_append]
      refine ⟨hpd, List.nodup_cons.mpr ⟨List.not_mem_nil, List.nodup_nil⟩, fun y hy z hz e => hx0 ?_⟩
      rw [← List.mem_singleton.mp hz, ← e]; exact hy
  case go =>
  subst e1 e2
  have hfo0 := rgR_fo (ts := ts) (ev := ev) hps2 hpl.1 htl ps.length (Nat.le_refl _)
  have h0l : ((List.range ps.length).map (rgR ts ps)).length = ps.length := by rw [List.length_map, List.length_range]
  have h0in : ∀ i, i < ps.length → rgR ts ps i ∈ (List.range ps.length).map (rgR ts ps) := fun i hi => List.mem_map.mpr ⟨i, List.mem_range.mpr hi, rfl⟩
  generalize (List.range ps.length).map (rgR ts ps) = rs at *
  have hE1 : (0 : Int) < (((stD ev).length : Nat) : Int) := by rw [stD_len]; omega
  have hE2 : (((stD ev).length : Nat) : Int) ≤ 100000000 := by rw [stD_len]; omega
  refine q_forn (ei_strs (ss := ts.drop ps.length) ((evn_sl (ev_var rfl) (eo_some (ev_len (ev_var rfl) (.ce 1 rfl))) eo_none .vl).lst.to (congrArg (fun z => W.val (.lst z)) ((cut_from (by omega) (by rw [rwD_len, stD_len]; omega)).trans ?hd)))) (fun i ro ka => ∃ (gs : List Ln) (p' : Pl) (v v8 v10 : Option W), ro = [some (.val (.adr a)), some (.val (.int m)), some (.val (.int l)), some (.val (.lst (stD ns))), some (.val (.lst (stD ps))), some (.val (.lst (stD ts))), v, some (.val (.adr c)), v8, some (.val (.lst (stD ev))), v10] ∧ ka = [(a, .lst (Pl.ds p')), (c, .lst (rwD (rs ++ gs)))] ∧ p'.Ok (n + 104 + 3 * i) ∧ FoOk ev ts (rs ++ gs) (ps.length + i))
    ⟨[], p5, v, v8, none, rfl, by rw [List.append_nil], hp5.up (by omega), by rw [List.append_nil]; exact hfo0⟩ (fun i ro ka _ => trivial) (fun i w ro2 ka2 ta' hw ⟨gs, p', v, v8, v10, e1, e2, hp', hfo⟩ => ?l2) (fun ro2 ka2 ta' ⟨gs, p', v, v8, v10, e1, e2, hp', hfo⟩ _ => ?go)
  case hd =>
    rw [rwD_len, Int.toNat_natCast, h0l]
    unfold stD
    rw [List.map_drop]
  case l2 =>
    subst e1 e2
    rw [List.getElem?_map] at hw
    obtain ⟨x, hx, rfl⟩ := Option.map_eq_some_iff.mp hw
    rw [List.getElem?_drop] at hx
    have hi : ps.length + i < ts.length := (List.getElem?_eq_some_iff.mp hx).1
    have hfl' := hfo.len
    have o1 := tk_ok hp' (m := 5) (by decide)
    refine g_if (et_test (ev_gt (ev_take (kr := [(c, .lst (rwD (rs ++ gs)))]) (ev_var rfl) ev_int (hp'.up (by omega)) (by decide) (by decide)) ev_int)) (fun hb => ?_) (fun hb => g_next (g_jp ⟨gs, _, _, _, _, rfl, rfl, o1.up (by push_cast; omega), hfo.skip⟩))
    generalize tk p' 5 = q1 at *
    have t2 := tk_lt q1.2 hE1
    have o2 := tk_ok o1 hE1
    have u2 : (tk q1.2 (((stD ev).length : Nat) : Int)).1.toNat < ev.length := by rw [stD_len] at t2 ⊢; omega
    refine q_asg (ev_ixV (ev_var rfl) (ev_take (kr := [(c, .lst (rwD (rs ++ gs)))]) (ev_var rfl) (ev_len (ev_var rfl) .vl) (o1.up (by omega)) hE1 hE2) .vl (atZ t2.1 (stD_get (List.getElem?_eq_getElem u2)))) ?_
    generalize tk q1.2 (((stD ev).length : Nat) : Int) = q2 at *
    have t3 := tk_lt q2.2 hE1
    have o3 := tk_ok o2 hE1
    have u3 : (tk q2.2 (((stD ev).length : Nat) : Int)).1.toNat < ev.length := by rw [stD_len] at t3 ⊢; omega
    refine g_app (j0 := 1) (j := 1) (d := rwL (x, ev[q2.1.toNat], ev[(tk q2.2 (((stD ev).length : Nat) : Int)).1.toNat])) (ev_var rfl) rfl (ev_tup (ds := [.str x, .str ev[q2.1.toNat], .str ev[(tk q2.2 (((stD ev).length : Nat) : Int)).1.toNat]]) (ea3 (ev_var rfl) (ev_var rfl) (ev_ixV (ev_var rfl) (ev_take (kr := [(c, .lst (rwD (rs ++ gs)))]) (ev_var rfl) (ev_len (ev_var rfl) .vl) (o2.up (by omega)) hE1 hE2) .vl (atZ t3.1 (stD_get (List.getElem?_eq_getElem u3))))) (show 3 ≤ 100000 by decide)) rfl (by rw [rwD_len]; omega)
      (g_jp ⟨gs ++ [(x, ev[q2.1.toNat], ev[(tk q2.2 (((stD ev).length : Nat) : Int)).1.toNat])], _, _, _, _, rfl, by rw [← List.append_assoc, rwD_app (rs ++ gs)]; rfl, o3.up (by push_cast; omega), by rw [← List.append_assoc]; exact hfo.add hx (List.getElem_mem _) (List.getElem_mem _)⟩)
  case go =>
  subst e1 e2
  have hle := hfo.len
  have hts2 : ts.length ≤ 26 := by omega
  refine Gp.frz (i := 7) (j := 1) rfl rfl ?_
  rw [List.length_map, List.length_drop] at hp' hfo
  have hp'' : p'.Ok (n + 220) := hp'.up (by omega)
  refine g_retR hR (evnr_l2 (ev_var rfl) (evr_call (k1 := [(a, .lst (Pl.ds p'))]) [] (ea2 (ev_var rfl) (ev_var rfl)) ⟨_, _, rfl, a, p', n + 220, rwD (rs ++ gs), rfl, rfl, rfl, hp'', by omega, by omega, by rw [rwD_len]; omega, .inl rfl⟩ (fun o k ⟨es, p', h, _⟩ => ⟨_, h⟩)) (R := fun nd k => ∃ ds, nd = .lst [.lst (stD ev), .lst ds] ∧ ∃ p', k = [(a, .lst (Pl.ds p'))] ∧ p'.Ok (n + 220 + 26) ∧ ds.Perm (rwD (rs ++ gs))) fun w k ⟨d, k2, ⟨es, p', e1, e2, e3, e4⟩, e5, e6⟩ => ?_) (fun nd k ⟨ds, e1, p', e2, e3, e4⟩ => ?_)
  · cases e1
    subst e2 e5 e6
    exact ⟨_, rfl, es, rfl, p', rfl, e3.up (by rw [rwD_len]; omega), e4⟩
  · obtain ⟨es, rfl, hperm⟩ := rwD_perm e4
    have hin : ∀ i, i < ps.length → rgR ts ps i ∈ es := fun i hi => hperm.mem_iff.mpr (List.mem_append_left _ (h0in i hi))
    refine ⟨_, e1, ev, es, p', rfl, e2, e3.up (by omega), ⟨hen, hed, fun r hr => ?_, ?_, fun r hr => hfo.st r (hperm.mem_iff.mp hr), by omega, ?_⟩, ⟨ps, fun z => ?_, hps2, hel, rgR_rch hpl.1 hin, fun q hq => ?_⟩, by omega, ?_⟩
    · exact htn _ (List.mem_of_mem_take (hfo.sub.subset (List.mem_map.mpr ⟨r, hperm.mem_iff.mp hr, rfl⟩)))
    · exact (lnN_perm hperm).nodup_iff.mpr (hfo.sub.nodup ((List.take_sublist _ _).nodup htd))
    · rw [hperm.length_eq]; omega
    · have := hpl.1
      rw [z] at this
      exact absurd this (by decide)
    · obtain ⟨i, hi, rfl⟩ := List.mem_iff_getElem.mp hq
      refine ⟨_, hin i hi, ?_, (gD (Nat.mod_lt _ hpl.1)).2.1⟩
      show ps.getD i "" = _
      rw [List.getD_eq_getElem?_getD, List.getElem?_eq_getElem hi]
      rfl
    · rw [hperm.length_eq]; omega
end
def ct_law_built (K : PySem.W.Frag) : Ct := Ct1 fun s ka out => ∃ ps es, s = .val (PtD ps es) ∧ PtOk ps es ∧ ka = [] ∧ out = fun o' k => ∃ a o d, o' = .ret (.adr a) ∧ k = NetC K a o d ps es
section
variable {P : Program} {w : World} {K : PySem.W.Frag} {mg : Str → Option Value} {base : Heap}
theorem ok_law_built (T : Tx K mg) (F_Net___init : FnE P w K mg base 4 (He.ma K (He.ga K "Net") "__init__") ["self", "order", "ends_by_lane"] [.ref (He.dflAt ("Net", some "__init__") 0 K), .non] (ct_Net___init K)) (F_Net_post : Fn P w K mg base 6 (He.ma K (He.ga K "Net") "post") ["self", "name"] (ct_Net_post K)) (F_Net_lane : Fn P w K mg base 6 (He.ma K (He.ga K "Net") "lane") ["self", "name", "start", "end"] (ct_Net_lane K)) : Fn P w K mg base 8 (He.ga K "_law_built") ["_law_parts"] (ct_law_built K) := by
  obtain ⟨fd, F⟩ := T.d_law_built
  refine fn_ok F sc_law_built (fun _ _ _ _ _ _ us hl => match us, hl with | [_], _ => rfl) ct1_len (fun cdv A outer s H E hr => ⟨_, (pss_cons (ps_set (i := 1) sc_law_built.nd rfl (by first | exact Or.inl rfl | exact Or.inr rfl) (pe_make0 T.mk_Net (F_Net___init.d.up (by decide)).ok hr rfl T.g_Net.1 (F_Net___init.d.up (by decide)).bn (F_Net___init.d.up (by decide)).dv (pass_own rfl rfl rfl rfl)))
      (pss_cons (ps_for (passes_of rfl) rfl (pi_seq (pe_ix ix_seq (pv 0) pe_int fun _ _ => rfl)) (pg_name (i := 2) sc_law_built.nd rfl (by first | exact Or.inl rfl | exact Or.inr rfl)) (pss_one (ps_expr (pe_meth (pv 1) T.cl_Net T.me_Net_post (F_Net_post.up (by decide)).ok hr (F_Net_post.up (by decide)).bn .nil (pass_own rfl rfl rfl rfl) (pa_cons (pv 2) pa_nil)))))
      (pss_cons (ps_for (passes_of rfl) rfl (pi_seq (pe_ix ix_seq (pv 0) pe_int fun _ _ => rfl)) (pg_tup rfl (pgs_cons (pg_name (i := 3) sc_law_built.nd rfl (by first | exact Or.inl rfl | exact Or.inr rfl)) (pgs_cons (pg_name (i := 4) sc_law_built.nd rfl (by first | exact Or.inl rfl | exact Or.inr rfl)) (pgs_cons (pg_name (i := 5) sc_law_built.nd rfl (by first | exact Or.inl rfl | exact Or.inr rfl)) pgs_nil)))) (pss_one (ps_expr (pe_meth (pv 1) T.cl_Net T.me_Net_lane (F_Net_lane.up (by decide)).ok hr (F_Net_lane.up (by decide)).bn .nil (pass_own rfl rfl rfl rfl) (pa_cons (pv 3) (pa_cons (pv 4) (pa_cons (pv 5) pa_nil)))))))
      (pss_one (ps_ret (pv 1)))))), fun ws ka out B F0 Q hC hR hX => ?_⟩)
  obtain ⟨s, rfl, ps, es, rfl, hok, rfl, rfl⟩ := hC
  refine q_asgR (evr_make (P := fun w k => ∃ a o d, w = .val (.adr a) ∧ k = NetC K a o d [] []) ea_nil (dv_cons (wok_t0 T.t0_Net___init) (dv_cons (w := .val .non) (fun _ _ => rfl) dv_nil)) fun a => ⟨_, ⟨_, _, _, rfl, a, true, false, [], [], rfl, rfl, .vt, Nat.zero_le _, Nat.zero_le _, List.nodup_nil, .inl ⟨rfl, rfl⟩, rfl⟩, fun o' k ⟨o, d, h1, h2⟩ => ⟨h1, a, o, d, rfl, h2⟩⟩) fun w k1 ⟨a, o, d, h1, h2⟩ => ?_
  subst h1 h2
  refine q_forn (ei_strs (ev_ixV (ev_var rfl) ev_int .vl at0)) (fun i ro ka => ∃ v, ro = [some (.val (PtD ps es)), some (.val (.adr a)), v, none, none, none] ∧ ka = NetC K a o d (ps.take i) []) ⟨none, rfl, rfl⟩ (fun i ro ka _ => trivial) (fun i w ro2 ka2 ta' hw ⟨v, e1, e2⟩ => ?_) (fun ro2 ka2 ta' ⟨v, e1, e2⟩ _ => ?_)
  · subst e1 e2
    rw [List.getElem?_map] at hw
    obtain ⟨p, hp, rfl⟩ := Option.map_eq_some_iff.mp hw
    have hm := List.mem_of_getElem? hp
    refine g_drop (ev_methA (k2 := NetC K a o d (ps.take i) []) (k3 := NetC K a o d (ps.take i ++ [p]) []) (d := .non) [] (ev_var rfl) (.c 0 rfl) rfl (ea1 (ev_var rfl)) ⟨_, _, rfl, a, o, d, ps.take i, [], .str p, rfl, rfl, nm_ok (hok.pn p hm), ?_, rfl, (po_ok (hok.pn p hm) (not_take hok.pd hp)).symm⟩) (g_jp ⟨_, rfl, ?_⟩)
    · have := hok.pl
      rw [List.length_take]
      omega
    · rw [take_succ_some hp]
      rfl
  subst e1 e2
  rw [List.length_map, List.take_length]
  refine q_forT (ei_map (ts := es) (f := rwL) (ev_ixV (ev_var rfl) ev_int .vl (atI_nat (j := 1) rfl))) (fun i ro ka => ∃ v v1 v2 v3, ro = [some (.val (PtD ps es)), some (.val (.adr a)), v, v1, v2, v3] ∧ ka = NetC K a o d ps (es.take i)) ⟨v, none, none, none, rfl, rfl⟩ (fun i ro ka _ => trivial) (fun i w ro2 ka2 ta' hw ⟨v, v1, v2, v3, e1, e2⟩ => ?_) (fun ro2 ka2 ta' ⟨v, v1, v2, v3, e1, e2⟩ _ => ?_)
  · subst e1 e2
    rw [List.getElem?_map] at hw
    obtain ⟨r, hr2, rfl⟩ := Option.map_eq_some_iff.mp hw
    have hm := List.mem_of_getElem? hr2
    refine ⟨_, at_t3, g_drop (ev_methA (k2 := NetC K a o d ps (es.take i)) (k3 := NetC K a o d ps (es.take i ++ [r])) (d := .non) [] (ev_var rfl) (.c 0 rfl) rfl (ea3 (ev_var rfl) (ev_var rfl) (ev_var rfl)) ⟨_, _, _, _, rfl, a, o, d, ps, es.take i, .str r.1, r.2.1, r.2.2, rfl, rfl, nm_ok (hok.en r hm), rfl, rfl, ?_, rfl, (la_ok (hok.en r hm) ?_ (hok.st r hm).1 (hok.st r hm).2).symm⟩) (g_jp ⟨_, _, _, _, rfl, ?_⟩)⟩
    · have := hok.el
      rw [List.length_take]
      omega
    · rw [lnN_take]
      exact not_take hok.ed (lnN_at hr2)
    · rw [take_succ_some hr2]
      rfl
  · subst e1 e2
    rw [List.length_map, List.take_length]
    exact g_ret hR (ev_var rfl) ⟨a, o, d, rfl, rfl⟩
end
def ct_law_lanes (K : PySem.W.Frag) : Ct := Ct1 fun s ka out => ∃ ps es, s = .val (PtD ps es) ∧ es.length ≤ 10000 ∧ ka = [] ∧ out = Rt (.lst (stD (lnN es))) []
section
variable {P : Program} {w : World} {K : PySem.W.Frag} {mg : Str → Option Value} {base : Heap}
theorem ok_law_lanes (T : Tx K mg) : Fn P w K mg base 4 (He.ga K "_law_lanes") ["_law_parts"] (ct_law_lanes K) := by
  obtain ⟨fd, F⟩ := T.d_law_lanes
  refine fn_ok F sc_law_lanes (fun _ _ _ _ _ _ us hl => match us, hl with | [_], _ => rfl) ct1_len (fun cdv A outer s H E hr => ⟨_, (pss_one (ps_ret (pe_lc (te := (tOp (rIx K) (tVar 1) (tC (.int 0)))) (tt := tYes) (own := [("_law_row", 1)]) rfl sc_law_lanes.nd (pi_seq (pe_ix ix_seq (pv 0) pe_int fun _ _ => rfl)) (blk_ok ["_law_parts", "_law_row"] (defScope s_law_lanes) rfl rfl (by decide +kernel)) (fun _ _ _ _ _ => (pg_name (i := 1) sc_law_lanes.nd rfl (by first | exact Or.inl rfl | exact Or.inr rfl))) (fun _ _ _ _ _ => pts_nil) (fun _ _ _ _ _ => (pe_ix ix_seq (pv 1) pe_int fun _ _ => rfl))))), fun ws ka out B F0 Q hC hR hX => ?_⟩)
  obtain ⟨s, rfl, ps, es, rfl, hl, rfl, rfl⟩ := hC
  exact g_retL hR (evn_filt_to (evn_map (xs := es) (g := fun r => W.val (rwL r)) (f := fun r => D.str r.1) (ei_map (ts := es) (f := rwL) (ev_ixV (ev_var rfl) ev_int .vl (atI_nat (j := 1) rfl))) (by decide) (by omega) ⟨trivial, fun _ => trivial⟩ (fun r hr => ev_ixV (ev_var rfl) ev_int .vt (atI_nat (j := 0) rfl))) (show es.map (fun r => D.str r.1) = stD (lnN es) by unfold lnN stD; rw [List.map_map]; rfl)) ⟨rfl, rfl⟩
end
def ct_law_in_order (K : PySem.W.Frag) : Ct := Ct2 fun a b ka out => ∃ ps es ws t, a = .val (PtD ps es) ∧ Lk [] b t (stD ws) false ∧ es.length ≤ 10000 ∧ ka = [] ∧ out = Rt (.tup (stD (goalL es ws))) []
section
variable {P : Program} {w : World} {K : PySem.W.Frag} {mg : Str → Option Value} {base : Heap}
theorem ok_law_in_order (T : Tx K mg) : Fn P w K mg base 4 (He.ga K "_law_in_order") ["_law_parts", "_law_lanes_here"] (ct_law_in_order K) := by
  obtain ⟨fd, F⟩ := T.d_law_in_order
  refine fn_ok F sc_law_in_order (fun _ _ _ _ _ _ us hl => match us, hl with | [_, _], _ => rfl) ct2_len (fun cdv A outer s H E hr => ⟨_, (pss_one (ps_ret (pe_callTy call_tupU rfl T.n_tuple (by decide +kernel) (pa_cons (pe_lc (te := (tOp (rIx K) (tVar 2) (tC (.int 0)))) (tt := (tTest (tOp (rInU K) (tOp (rIx K) (tVar 2) (tC (.int 0))) (tVar 1)))) (own := [("_law_row", 2)]) rfl sc_law_in_order.nd (pi_seq (pe_ix ix_seq (pv 0) pe_int fun _ _ => rfl)) (blk_ok ["_law_parts", "_law_lanes_here", "_law_row"] (defScope s_law_in_order) rfl rfl (by decide +kernel)) (fun _ _ _ _ _ => (pg_name (i := 2) sc_law_in_order.nd rfl (by first | exact Or.inl rfl | exact Or.inr rfl))) (fun _ _ _ _ _ => (pts_one (pt_cmpR op_inU (pe_ix ix_seq (pv 2) pe_int fun _ _ => rfl) (pv 1) (by with_unfolding_all rfl)))) (fun _ _ _ _ _ => (pe_ix ix_seq (pv 2) pe_int fun _ _ => rfl))) pa_nil)))), fun ws ka out B F0 Q hC hR hX => ?_⟩)
  obtain ⟨a, b, rfl, ps, es, ws, t, rfl, lb, hl, rfl, rfl⟩ := hC
  have e0 : (es.filter fun r => decide (r.1 ∈ ws)).map (fun r => D.str r.1) = stD (goalL es ws) := by
    unfold goalL lnN stD
    rw [List.filter_map, List.map_map]
    rfl
  exact g_ret hR (ev_cb (ea1 ((evn_filt (xs := es) (g := fun r => W.val (rwL r)) (f := fun r => D.str r.1) (p := fun r => decide (r.1 ∈ ws)) (ei_map (ts := es) (f := rwL) (ev_ixV (ev_var rfl) ev_int .vl (atI_nat (j := 1) rfl))) (by decide) (by omega) ⟨trivial, fun _ => trivial⟩ (fun r hr => et_test (ev_inL (ev_ixV (d := .str r.1) (ev_var rfl) ev_int .vt (atI_nat (j := 0) rfl)) (ev_var rfl) lb)) (fun r hr _ => ev_ixV (ev_var rfl) ev_int .vt (atI_nat (j := 0) rfl))).lst.to (congrArg (fun z => W.val (.lst z)) e0))) (rc_tupL .vl (sqf_stD _ _))) ⟨rfl, rfl⟩
end
/-- the lanes but some -/
def cutE (es : List Ln) (ls : List Str) : List Ln := es.filter fun r => !decide (r.1 ∈ ls)
def ct_law_drop (K : PySem.W.Frag) : Ct := Ct2 fun a b ka out => ∃ ps es ls, a = .val (PtD ps es) ∧ b = .val (.lst (stD ls)) ∧ es.length ≤ 10000 ∧ ka = [] ∧ out = Rt (PtD ps (cutE es ls)) []
section
variable {P : Program} {w : World} {K : PySem.W.Frag} {mg : Str → Option Value} {base : Heap}
theorem ok_law_drop (T : Tx K mg) : Fn P w K mg base 4 (He.ga K "_law_drop") ["_law_parts", "_law_lanes_here"] (ct_law_drop K) := by
  obtain ⟨fd, F⟩ := T.d_law_drop
  refine fn_ok F sc_law_drop (fun _ _ _ _ _ _ us hl => match us, hl with | [_, _], _ => rfl) ct2_len (fun cdv A outer s H E hr => ⟨_, (pss_one (ps_ret (pe_lst (pa_cons (pe_ix ix_seq (pv 0) pe_int fun _ _ => rfl) (pa_cons (pe_lc (te := (tVar 2)) (tt := (tTest (tOp (rNiU K) (tOp (rIx K) (tVar 2) (tC (.int 0))) (tVar 1)))) (own := [("_law_row", 2)]) rfl sc_law_drop.nd (pi_seq (pe_ix ix_seq (pv 0) pe_int fun _ _ => rfl)) (blk_ok ["_law_parts", "_law_lanes_here", "_law_row"] (defScope s_law_drop) rfl rfl (by decide +kernel)) (fun _ _ _ _ _ => (pg_name (i := 2) sc_law_drop.nd rfl (by first | exact Or.inl rfl | exact Or.inr rfl))) (fun _ _ _ _ _ => (pts_one (pt_cmpR op_niU (pe_ix ix_seq (pv 2) pe_int fun _ _ => rfl) (pv 1) (by with_unfolding_all rfl)))) (fun _ _ _ _ _ => (pv 2))) pa_nil))))), fun ws ka out B F0 Q hC hR hX => ?_⟩)
  obtain ⟨a, b, rfl, ps, es, ls, rfl, rfl, hel, rfl, rfl⟩ := hC
  exact g_ret hR (evn_lst (ds := [.lst (stD ps), .lst (rwD (cutE es ls))]) (ea2 (ev_ixV (ev_var rfl) ev_int .vl at0) ((evn_filt (xs := es) (g := fun r => W.val (rwL r)) (f := rwL) (p := fun r => !decide (r.1 ∈ ls)) (ei_map (ts := es) (f := rwL) (ev_ixV (ev_var rfl) ev_int .vl (atI_nat (j := 1) rfl))) (by decide) (by omega) ⟨trivial, fun _ => trivial⟩ (fun r hr => et_test (ev_niL (ev_ixV (d := .str r.1) (ev_var rfl) ev_int .vt (atI_nat (j := 0) rfl)) (ev_var rfl) .vl)) (fun r hr _ => ev_var rfl)).lst)) (show 2 ≤ 100000 by decide)).lst ⟨rfl, rfl⟩
end
def ct_law_deed (K : PySem.W.Frag) : Ct := Ct3 fun s b c ka out => ∃ a p n ps es ws, s = .val (.adr a) ∧ b = .val (PtD ps es) ∧ c = .val (.lst (stD ws)) ∧ ka = [(a, .lst (Pl.ds p))] ∧ p.Ok n ∧ 0 ≤ n ∧ n ≤ 800000 ∧ ps ≠ [] ∧ ps.length < 26 ∧ es.length < 26 ∧ ws.length ≤ 1000 ∧ (∀ s ∈ ps, isNm s = true) ∧ (∀ s ∈ lnN es, isNm s = true) ∧ (∀ s ∈ ws, isNm s = true) ∧
  out = fun o k => ∃ d p', o = .ret d ∧ k = [(a, .lst (Pl.ds p'))] ∧ p'.Ok (n + 20) ∧ DeedK d ∧ PutN es.length d ∧ pl 60 d = true
section
variable {P : Program} {w : World} {K : PySem.W.Frag} {mg : Str → Option Value} {base : Heap}
theorem ok_law_deed (T : Tx K mg) (F_law_take : Fn P w K mg base 4 (He.ga K "_law_take") ["_law_pool_here", "_law_many_here"] (ct_law_take K)) (F_law_stranger : Fn P w K mg base 6 (He.ga K "_law_stranger") ["_law_pool_here", "_law_names"] (ct_law_stranger K)) (F_law_lanes : Fn P w K mg base 4 (He.ga K "_law_lanes") ["_law_parts"] (ct_law_lanes K)) : Fn P w K mg base 8 (He.ga K "_law_deed") ["_law_pool_here", "_law_parts", "_law_wanted"] (ct_law_deed K) := by
  obtain ⟨fd, F⟩ := T.d_law_deed
  refine fn_ok F sc_law_deed (fun _ _ _ _ _ _ us hl => match us, hl with | [_, _, _], _ => rfl) ct3_len (fun cdv A outer s H E hr => ⟨_, (pss_cons (ps_set (i := 3) sc_law_deed.nd rfl (by first | exact Or.inl rfl | exact Or.inr rfl) (pe_call (F_law_take.up (by decide)).ok hr rfl T.g_law_take.1 T.g_law_take.2 (F_law_take.up (by decide)).bn .nil (pass_own rfl rfl rfl rfl) (pa_cons (pv 0) (pa_cons pe_int pa_nil))))
      (pss_cons (ps_set (i := 4) sc_law_deed.nd rfl (by first | exact Or.inl rfl | exact Or.inr rfl) (pe_call (F_law_lanes.up (by decide)).ok hr rfl T.g_law_lanes.1 T.g_law_lanes.2 (F_law_lanes.up (by decide)).bn .nil (pass_own rfl rfl rfl rfl) (pa_cons (pv 1) pa_nil)))
      (pss_cons (ps_if (PW.pt (pw_and (pt_cmpR op_lt (pv 3) pe_int (nomark _)) (pw_and1 (pt_cmpR op_gt (pe_callB call_lenU rfl T.n_len (by decide +kernel) (pa_cons (pv 4) pa_nil)) pe_int (nomark _)))))
      (pss_one (ps_set (i := 3) sc_law_deed.nd rfl (by first | exact Or.inl rfl | exact Or.inr rfl) pe_int))
      pss_nil)
      (pss_cons (ps_set (i := 5) sc_law_deed.nd rfl (by first | exact Or.inl rfl | exact Or.inr rfl) (pe_call (F_law_stranger.up (by decide)).ok hr rfl T.g_law_stranger.1 T.g_law_stranger.2 (F_law_stranger.up (by decide)).bn .nil (pass_own rfl rfl rfl rfl) (pa_cons (pv 0) (pa_cons (pv 4) pa_nil))))
      (pss_cons (ps_set (i := 6) sc_law_deed.nd rfl (by first | exact Or.inl rfl | exact Or.inr rfl) (pe_ix ix_seq (pe_op op_addU (pv 4) (pe_lst (pa_cons (pv 5) pa_nil))) (pe_call (F_law_take.up (by decide)).ok hr rfl T.g_law_take.1 T.g_law_take.2 (F_law_take.up (by decide)).bn .nil (pass_own rfl rfl rfl rfl) (pa_cons (pv 0) (pa_cons (pe_op op_addU (pe_callB call_lenU rfl T.n_len (by decide +kernel) (pa_cons (pv 4) pa_nil)) pe_int) pa_nil))) fun _ _ => rfl))
      (pss_cons (ps_set (i := 7) sc_law_deed.nd rfl (by first | exact Or.inl rfl | exact Or.inr rfl) (pe_op op_addU (pe_ix ix_seq (pv 1) pe_int fun _ _ => rfl) (pe_lst (pa_cons (pe_call (F_law_stranger.up (by decide)).ok hr rfl T.g_law_stranger.1 T.g_law_stranger.2 (F_law_stranger.up (by decide)).bn .nil (pass_own rfl rfl rfl rfl) (pa_cons (pv 0) (pa_cons (pe_ix ix_seq (pv 1) pe_int fun _ _ => rfl) pa_nil))) pa_nil))))
      (pss_cons (ps_if (pt_cmpR op_lt (pv 3) pe_int (nomark _))
      (pss_cons (ps_set (i := 8) sc_law_deed.nd rfl (by first | exact Or.inl rfl | exact Or.inr rfl) (pe_ix ix_seq (pe_ix ix_seq (pv 1) pe_int fun _ _ => rfl) (pe_call (F_law_take.up (by decide)).ok hr rfl T.g_law_take.1 T.g_law_take.2 (F_law_take.up (by decide)).bn .nil (pass_own rfl rfl rfl rfl) (pa_cons (pv 0) (pa_cons (pe_callB call_lenU rfl T.n_len (by decide +kernel) (pa_cons (pe_ix ix_seq (pv 1) pe_int fun _ _ => rfl) pa_nil)) pa_nil))) fun _ _ => rfl))
      (pss_one (ps_ret (pe_tup (pa_cons pe_str (pa_cons (pv 5) (pa_cons (pv 8) (pa_cons (pe_ix ix_seq (pe_ix ix_seq (pv 1) pe_int fun _ _ => rfl) (pe_call (F_law_take.up (by decide)).ok hr rfl T.g_law_take.1 T.g_law_take.2 (F_law_take.up (by decide)).bn .nil (pass_own rfl rfl rfl rfl) (pa_cons (pv 0) (pa_cons (pe_callB call_lenU rfl T.n_len (by decide +kernel) (pa_cons (pe_ix ix_seq (pv 1) pe_int fun _ _ => rfl) pa_nil)) pa_nil))) fun _ _ => rfl) pa_nil))))))))
      pss_nil)
      (pss_cons (ps_if (pt_cmpR (op_eqP (by have := (hr).units; exact this)) (pv 3) pe_int (nomark _))
      (pss_cons (ps_set (i := 8) sc_law_deed.nd rfl (by first | exact Or.inl rfl | exact Or.inr rfl) (pe_ix ix_seq (pv 7) (pe_call (F_law_take.up (by decide)).ok hr rfl T.g_law_take.1 T.g_law_take.2 (F_law_take.up (by decide)).bn .nil (pass_own rfl rfl rfl rfl) (pa_cons (pv 0) (pa_cons (pe_callB call_lenU rfl T.n_len (by decide +kernel) (pa_cons (pv 7) pa_nil)) pa_nil))) fun _ _ => rfl))
      (pss_one (ps_ret (pe_tup (pa_cons pe_str (pa_cons (pe_ix ix_seq (pe_lst (pa_cons (pv 6) (pa_cons (pv 5) (pa_cons pe_str (pa_cons pe_str pa_nil))))) (pe_call (F_law_take.up (by decide)).ok hr rfl T.g_law_take.1 T.g_law_take.2 (F_law_take.up (by decide)).bn .nil (pass_own rfl rfl rfl rfl) (pa_cons (pv 0) (pa_cons pe_int pa_nil))) fun _ _ => rfl) (pa_cons (pv 8) (pa_cons (pe_ix ix_seq (pv 7) (pe_call (F_law_take.up (by decide)).ok hr rfl T.g_law_take.1 T.g_law_take.2 (F_law_take.up (by decide)).bn .nil (pass_own rfl rfl rfl rfl) (pa_cons (pv 0) (pa_cons (pe_callB call_lenU rfl T.n_len (by decide +kernel) (pa_cons (pv 7) pa_nil)) pa_nil))) fun _ _ => rfl) pa_nil))))))))
      pss_nil)
      (pss_cons (ps_if (PW.pt (pw_and (pt_cmpR (op_eqP (by have := (hr).units; exact this)) (pv 3) pe_int (nomark _)) (pw_and1 (pt_cmpR (op_neP (by have := (hr).units; exact this)) (pv 2) (pe_lst pa_nil) (nomark _)))))
      (pss_one (ps_ret (pe_tup (pa_cons pe_str (pa_cons (pe_ix ix_seq (pv 2) (pe_call (F_law_take.up (by decide)).ok hr rfl T.g_law_take.1 T.g_law_take.2 (F_law_take.up (by decide)).bn .nil (pass_own rfl rfl rfl rfl) (pa_cons (pv 0) (pa_cons (pe_callB call_lenU rfl T.n_len (by decide +kernel) (pa_cons (pv 2) pa_nil)) pa_nil))) fun _ _ => rfl) pa_nil)))))
      pss_nil)
      (pss_cons (ps_if (pt_cmpR (op_eqP (by have := (hr).units; exact this)) (pv 3) pe_int (nomark _))
      (pss_cons (ps_set (i := 10) sc_law_deed.nd rfl (by first | exact Or.inl rfl | exact Or.inr rfl) (pe_op op_addU (pe_lc (te := (tVar 9)) (tt := (tTest (tOp (rNiU K) (tVar 9) (tVar 2)))) (own := [("_law_one", 9)]) rfl sc_law_deed.nd (pi_seq (pv 4)) (blk_ok ["_law_pool_here", "_law_parts", "_law_wanted", "_law_kind", "_law_lanes_here", "_law_name", "_law_lane", "_law_posts", "_law_start", "_law_one", "_law_free", "_law_odd"] (defScope s_law_deed) rfl rfl (by decide +kernel)) (fun _ _ _ _ _ => (pg_name (i := 9) sc_law_deed.nd rfl (by first | exact Or.inl rfl | exact Or.inr rfl))) (fun _ _ _ _ _ => (pts_one (pt_cmpR op_niU (pv 9) (pv 2) (by with_unfolding_all rfl)))) (fun _ _ _ _ _ => (pv 9))) (pe_lst (pa_cons (pv 5) pa_nil))))
      (pss_one (ps_ret (pe_tup (pa_cons pe_str (pa_cons (pe_ix ix_seq (pv 10) (pe_call (F_law_take.up (by decide)).ok hr rfl T.g_law_take.1 T.g_law_take.2 (F_law_take.up (by decide)).bn .nil (pass_own rfl rfl rfl rfl) (pa_cons (pv 0) (pa_cons (pe_callB call_lenU rfl T.n_len (by decide +kernel) (pa_cons (pv 10) pa_nil)) pa_nil))) fun _ _ => rfl) pa_nil))))))
      pss_nil)
      (pss_cons (ps_if (pt_cmpR (op_eqP (by have := (hr).units; exact this)) (pv 3) pe_int (nomark _))
      (pss_cons (ps_set (i := 11) sc_law_deed.nd rfl (by first | exact Or.inl rfl | exact Or.inr rfl) (pe_lst (pa_cons (pe_tup (pa_cons pe_str (pa_cons (pv 5) pa_nil))) (pa_cons (pe_tup (pa_cons pe_str (pa_cons (pv 6) (pa_cons (pv 6) pa_nil)))) (pa_cons (pe_lst (pa_cons pe_str (pa_cons (pv 6) pa_nil))) (pa_cons (pe_tup (pa_cons pe_str (pa_cons (pv 6) pa_nil))) (pa_cons (pe_tup (pa_cons pe_str (pa_cons pe_non pa_nil))) (pa_cons pe_non (pa_cons (pe_tup pa_nil) (pa_cons pe_str pa_nil))))))))))
      (pss_one (ps_ret (pe_ix ix_seq (pv 11) (pe_call (F_law_take.up (by decide)).ok hr rfl T.g_law_take.1 T.g_law_take.2 (F_law_take.up (by decide)).bn .nil (pass_own rfl rfl rfl rfl) (pa_cons (pv 0) (pa_cons pe_int pa_nil))) fun _ _ => rfl))))
      pss_nil)
      (pss_cons (ps_if (pt_cmpR (op_eqP (by have := (hr).units; exact this)) (pv 3) pe_int (nomark _))
      (pss_one (ps_ret (pe_tup (pa_cons (pe_ix ix_seq (pe_lst (pa_cons pe_str (pa_cons pe_str pa_nil))) (pe_call (F_law_take.up (by decide)).ok hr rfl T.g_law_take.1 T.g_law_take.2 (F_law_take.up (by decide)).bn .nil (pass_own rfl rfl rfl rfl) (pa_cons (pv 0) (pa_cons pe_int pa_nil))) fun _ _ => rfl) (pa_cons (pv 6) pa_nil)))))
      pss_nil)
      (pss_one (ps_ret (pe_tup (pa_cons pe_str (pa_cons (pv 6) pa_nil))))))))))))))))), fun ws ka out B F0 Q hC hR hX => ?_⟩)
  obtain ⟨s1, b1, c1, rfl, a, p, n, ps, es, ws, rfl, rfl, rfl, rfl, hp, hn0, hn, hpne, hpl, hel, hwl, hpn, hen, hwn, rfl⟩ := hC
  have lnl : (lnN es).length = es.length := lnN_len es
  refine q_asg (w := .val (.int (tk p 9).1)) (k1 := [(a, .lst (tk p 9).2.ds)]) (ev_take (kr := []) (ev_var rfl) ev_int (hp.up (by omega)) (by decide) (by decide)) ?_
  have o1 := tk_ok hp (m := 9) (by decide)
  generalize (tk p 9).1 = kd at *
  generalize (tk p 9).2 = p1 at *
  refine q_asg (w := .val (.lst (stD (lnN es)))) (ev_callP (ea1 (ev_var rfl)) ⟨_, rfl, ps, es, rfl, by omega, rfl, rfl⟩) ?_
  refine q_ifI (b := decide (kd < 3) && decide (13 < es.length)) (fun ro k => ∃ kd' : Int, (kd' < 3 → es.length ≤ 13) ∧ ro = [some (.val (.adr a)), some (.val (PtD ps es)), some (.val (.lst (stD ws))), some (.val (.int kd')), some (.val (.lst (stD (lnN es)))), none, none, none, none, none, none, none] ∧ k = [(a, .lst (Pl.ds p1))]) ((et_and (et_test (ev_lt (ev_var rfl) ev_int)) fun _ => (et_test (ev_gt (ev_len (ev_var rfl) .vl) ev_int)).to (by rw [stD_len, lnl]; exact decide_eq_decide.mpr (by omega)))) (fun _ nx h => g_asg (w := .val (.int 8)) ev_int (h _ _ ⟨8, fun z => absurd z (by decide), rfl, rfl⟩)) (fun hb nx h => g_next (h _ _ ⟨kd, fun z => (by
      rw [Bool.and_eq_false_iff] at hb
      rcases hb with hb | hb
      · exact absurd z (of_decide_eq_false hb)
      · have := of_decide_eq_false hb; omega), rfl, rfl⟩)) (fun ro k ⟨kd', h13, e1, e2⟩ => ?_)
  subst e1 e2
  clear kd
  obtain ⟨n1, n2, o2⟩ := stg_ok o1 (ns := lnN es) (by omega) hen
  refine q_asg (w := .val (.str (stgS p1 (lnN es)))) (k1 := [(a, .lst (stgP p1 (lnN es)).ds)]) (ev_stranger (kr := []) (ev_var rfl) (ev_var rfl) o1 (by omega) (by omega) (by omega) hen) ?_
  generalize stgS p1 (lnN es) = nm at *
  generalize stgP p1 (lnN es) = p2 at *
  have lnm : ∀ s ∈ lnN es ++ [nm], isNm s = true := fun s hs => (List.mem_append.mp hs).elim (hen s) fun h => by rw [List.mem_singleton.mp h]; exact n1
  have len1 : ((stD (lnN es)).length : Int) + 1 = ((stD (lnN es ++ [nm])).length : Nat) := by
    rw [stD_len, stD_len, List.length_append, List.length_singleton]
    push_cast
    rfl
  obtain ⟨d0, hd0, at0'⟩ := at_tkD p2 (stD (lnN es ++ [nm])) (((stD (lnN es)).length : Nat) + 1) len1 (by intro z; simp [stD] at z)
  obtain ⟨ln, hln, rfl⟩ := List.mem_map.mp hd0
  have hlnm := lnm ln hln
  have m1 : (0 : Int) < ((stD (lnN es)).length : Nat) + 1 := by omega
  have m2 : ((stD (lnN es)).length : Int) + 1 ≤ 100000000 := by rw [stD_len, lnl]; omega
  refine q_asg (w := .val (.str ln)) (k1 := [(a, .lst (tk p2 (((stD (lnN es)).length : Nat) + 1)).2.ds)]) (ev_ixV (ds := stD (lnN es ++ [nm])) ((evn_op (ev_var rfl) (evn_lst (ds := stD [nm]) (ea1 (ev_var rfl)) (show 1 ≤ 100000 by decide)).lst (rvn_cat (b1 := false) (b2 := false) .vl .vl (by rw [stD_len, stD_len, lnl]; show es.length + 1 ≤ 100000; omega))).lst.to (congrArg (fun z => W.val (.lst z)) (stD_app (lnN es) [nm]))) (ev_take (kr := []) (ev_var rfl) (ev_addI (ev_len (ev_var rfl) .vl) ev_int) (o2.up (by omega)) m1 m2) .vl at0') ?_
  have o3 := tk_ok o2 m1
  generalize (tk p2 (((stD (lnN es)).length : Nat) + 1)).2 = p3 at *
  clear at0' hd0 len1 m1 m2
  obtain ⟨s1, s2, o4⟩ := stg_ok o3 (ns := ps) hpl hpn
  have pp : ∀ {ro : Ro} {k : Cells}, ro[1]? = some (some (.val (PtD ps es))) → EvD K (tOp (rIx K) (tVar 1) (tC (.int 0))) ro k (.val (.lst (stD ps))) k := fun h => ev_ixV (ev_var h) ev_int .vl (atI_nat (j := 0) rfl)
  refine q_asg (w := .val (.lst (stD (ps ++ [stgS p3 ps])))) (k1 := [(a, .lst (stgP p3 ps).ds)]) ((evn_op (pp rfl) (evn_lst (ds := stD [stgS p3 ps]) (ea1 (ev_stranger (kr := []) (ev_var rfl) (pp rfl) o3 (by omega) (by omega) hpl hpn)) (show 1 ≤ 100000 by decide)).lst (rvn_cat (b1 := false) (b2 := false) .vl .vl (by rw [stD_len, stD_len]; show ps.length + 1 ≤ 100000; omega))).lst.to (congrArg (fun z => W.val (.lst z)) (stD_app ps [stgS p3 ps]))) ?_
  generalize stgS p3 ps = sp at *
  generalize stgP p3 ps = p4 at *
  have pnm : ∀ s ∈ ps ++ [sp], isNm s = true := fun s hs => (List.mem_append.mp hs).elim (hpn s) fun h => by rw [List.mem_singleton.mp h]; exact s1
  have pne : ps ++ [sp] ≠ [] := fun z => by simp at z
  have pl1 : (ps ++ [sp]).length ≤ 100000 := by rw [List.length_append, List.length_singleton]; omega
  have nl : ∀ {s : Str}, isNm s = true → s.length ≤ 1000 := fun h => nm_ok h
  have two : ∀ {k s : Str}, k.length ≤ 1000 → k ≠ "put" → isNm s = true → DeedK (.tup (stD [k, s])) ∧ PutN es.length (.tup (stD [k, s])) ∧ pl 60 (.tup (stD [k, s])) = true := fun h1 h2 h3 => ⟨dk_tup (fun s hs => by
      rcases List.mem_cons.mp hs with rfl | hs
      · exact h1
      · rw [List.mem_singleton.mp hs]; exact nl h3) (show 2 ≤ 1000 by decide), fun l p q e => (by cases e), pl_stD _ 59⟩
  have four : ∀ {s x y : Str}, es.length ≤ 13 → (isNm s = true ∨ s = "A" ∨ s = "") → isNm x = true → isNm y = true → DeedK (.tup (stD ["put", s, x, y])) ∧ PutN es.length (.tup (stD ["put", s, x, y])) ∧ pl 60 (.tup (stD ["put", s, x, y])) = true := fun {s x y} h0 h1 h2 h3 => ⟨dk_tup (fun z hz => by
      rcases List.mem_cons.mp hz with rfl | hz
      · decide
      rcases List.mem_cons.mp hz with rfl | hz
      · rcases h1 with h1 | rfl | rfl
        · exact nl h1
        · decide
        · decide
      rcases List.mem_cons.mp hz with rfl | hz
      · exact nl h2
      · rw [List.mem_singleton.mp hz]; exact nl h3) (show 4 ≤ 1000 by decide), fun l p q e => (by cases e; exact ⟨h1, h0⟩), pl_stD _ 59⟩
  refine q_when (b := decide (kd' < 2)) (et_test (ev_lt (ev_var rfl) ev_int)) (fun hk => ?_) (fun _ => ?_)
  · refine q_asg (w := .val (.str (drawS p4 ps))) (k1 := [(a, .lst (drawP p4 ps).ds)]) (ev_draw (kr := []) (pp rfl) (ev_var rfl) (pp rfl) (o4.up (by omega)) hpne (by omega)) ?_
    have o5 := drawP_ok o4 hpne
    have f := four (h13 (by have := of_decide_eq_true hk; omega)) (.inl n1) (hpn _ (drawS_mem hpne p4)) (hpn _ (drawS_mem hpne (drawP p4 ps)))
    exact g_ret hR (ev_tup (ds := stD ["put", nm, drawS p4 ps, drawS (drawP p4 ps) ps]) (ea_cons ev_str (ea3 (ev_var rfl) (ev_var rfl) (ev_draw (kr := []) (pp rfl) (ev_var rfl) (pp rfl) (o5.up (by omega)) hpne (by omega)))) (show 4 ≤ 100000 by decide)) ⟨_, _, rfl, rfl, (drawP_ok o5 hpne).up (by omega), f.1, f.2.1, f.2.2⟩
  refine q_when (b := (kd' == 2)) (et_test (ev_eqI (ev_var rfl) ev_int)) (fun hk => ?_) (fun _ => ?_)
  · refine q_asg (w := .val (.str (drawS p4 (ps ++ [sp])))) (k1 := [(a, .lst (drawP p4 (ps ++ [sp])).ds)]) (ev_draw (kr := []) (ev_var rfl) (ev_var rfl) (ev_var rfl) (o4.up (by omega)) pne pl1) ?_
    have o5 := drawP_ok o4 pne
    have st := pnm _ (drawS_mem pne p4)
    generalize drawS p4 (ps ++ [sp]) = x at *
    generalize drawP p4 (ps ++ [sp]) = p5 at *
    obtain ⟨d1, hd1, at1⟩ := at_tkD p5 (stD [ln, nm, "A", ""]) 4 rfl (by intro z; cases z)
    obtain ⟨s, hs, rfl⟩ := List.mem_map.mp hd1
    have o6 := tk_ok o5 (m := 4) (by decide)
    have hsn : isNm s = true ∨ s = "A" ∨ s = "" := by
      rcases List.mem_cons.mp hs with rfl | hs
      · exact .inl hlnm
      rcases List.mem_cons.mp hs with rfl | hs
      · exact .inl n1
      rcases List.mem_cons.mp hs with rfl | hs
      · exact .inr (.inl rfl)
      · exact .inr (.inr (List.mem_singleton.mp hs))
    have f := four (h13 (by have := eq_of_beq hk; omega)) hsn st (pnm _ (drawS_mem pne (tk p5 4).2))
    exact g_ret hR (ev_tup (ds := stD ["put", s, x, drawS (tk p5 4).2 (ps ++ [sp])]) (ea_cons ev_str (ea3 (ev_ixV (ds := stD [ln, nm, "A", ""]) (evn_lst (ds := stD [ln, nm, "A", ""]) (ea_cons (ev_var rfl) (ea3 (ev_var rfl) ev_str ev_str)) (show 4 ≤ 100000 by decide)).lst (ev_take (kr := []) (ev_var rfl) ev_int (o5.up (by omega)) (by decide) (by decide)) .vl at1) (ev_var rfl) (ev_draw (kr := []) (ev_var rfl) (ev_var rfl) (ev_var rfl) (o6.up (by omega)) pne pl1))) (show 4 ≤ 100000 by decide)) ⟨_, _, rfl, rfl, (drawP_ok o6 pne).up (by omega), f.1, f.2.1, f.2.2⟩
  have nilT : eqD (.lst (stD ws)) (.lst []) = decide (ws = []) := by cases ws <;> rfl
  refine q_when (b := (kd' == 3) && !decide (ws = [])) (et_and (et_test (ev_eqI (ev_var rfl) ev_int)) fun _ => (et_test (ev_ne (d := .lst (stD ws)) (e := .lst []) (ev_var rfl) (evn_lst (ds := []) ea_nil (by decide)).lst .v .v (pl_stD _ 60) rfl)).to (by rw [nilT])) (fun hb => ?_) (fun _ => ?_)
  · have wne : ws ≠ [] := fun z => by
      rw [Bool.and_eq_true] at hb
      have := hb.2
      rw [decide_eq_true z] at this
      cases this
    have f := two (k := "drop") (by decide) (by decide) (hwn _ (drawS_mem wne p4))
    exact g_ret hR (ev_tup (ds := stD ["drop", drawS p4 ws]) (ea2 ev_str (ev_draw (kr := []) (ev_var rfl) (ev_var rfl) (ev_var rfl) (o4.up (by omega)) wne (by omega))) (show 2 ≤ 100000 by decide)) ⟨_, _, rfl, rfl, (drawP_ok o4 wne).up (by omega), f.1, f.2.1, f.2.2⟩
  refine q_when (b := (kd' == 4)) (et_test (ev_eqI (ev_var rfl) ev_int)) (fun _ => ?_) (fun _ => ?_)
  · have fl := List.length_filter_le (fun x => !decide (x ∈ ws)) (lnN es)
    refine q_asg (w := .val (.lst (stD ((lnN es).filter (fun x => !decide (x ∈ ws)) ++ [nm])))) ((evn_op (evn_filt (xs := lnN es) (g := fun s => W.val (.str s)) (f := fun s => D.str s) (p := fun x => !decide (x ∈ ws)) (ei_strsL (ev_var rfl) .vl) (by decide) (by omega) ⟨trivial, fun _ => trivial⟩ (fun x hx => et_test (ev_niL (ev_var rfl) (ev_var rfl) .vl)) (fun x hx _ => ev_var rfl)).lst (evn_lst (ds := stD [nm]) (ea1 (ev_var rfl)) (show 1 ≤ 100000 by decide)).lst (rvn_cat (b1 := false) (b2 := false) .vl .vl (by rw [List.length_map, stD_len]; show _ + 1 ≤ 100000; omega))).lst.to (congrArg (fun z => W.val (.lst z)) (stD_app _ [nm]))) ?_
    have fne : (lnN es).filter (fun x => !decide (x ∈ ws)) ++ [nm] ≠ [] := fun z => by simp at z
    have fm : ∀ s ∈ (lnN es).filter (fun x => !decide (x ∈ ws)) ++ [nm], isNm s = true := fun s hs => (List.mem_append.mp hs).elim (fun h => hen s (List.mem_filter.mp h).1) fun h => by rw [List.mem_singleton.mp h]; exact n1
    have fl2 : ((lnN es).filter (fun x => !decide (x ∈ ws)) ++ [nm]).length ≤ 100000 := by rw [List.length_append, List.length_singleton]; omega
    generalize (lnN es).filter (fun x => !decide (x ∈ ws)) ++ [nm] = fr at *
    have f := two (k := "take") (by decide) (by decide) (fm _ (drawS_mem fne p4))
    exact g_ret hR (ev_tup (ds := stD ["take", drawS p4 fr]) (ea2 ev_str (ev_draw (kr := []) (ev_var rfl) (ev_var rfl) (ev_var rfl) (o4.up (by omega)) fne fl2)) (show 2 ≤ 100000 by decide)) ⟨_, _, rfl, rfl, (drawP_ok o4 fne).up (by omega), f.1, f.2.1, f.2.2⟩
  refine q_when (b := (kd' == 5)) (et_test (ev_eqI (ev_var rfl) ev_int)) (fun _ => ?_) (fun _ => ?_)
  · refine q_asg (w := .val (.lst (oddD nm ln))) (evn_lst (ds := oddD nm ln) (ea_cons (ev_tup (ds := stD ["put", nm]) (ea2 ev_str (ev_var rfl)) (show 2 ≤ 100000 by decide)) (ea_cons (ev_tup (ds := stD ["take", ln, ln]) (ea3 ev_str (ev_var rfl) (ev_var rfl)) (show 3 ≤ 100000 by decide)) (ea_cons (evn_lst (ds := stD ["take", ln]) (ea2 ev_str (ev_var rfl)) (show 2 ≤ 100000 by decide)).lst (ea_cons (ev_tup (ds := stD ["Take", ln]) (ea2 ev_str (ev_var rfl)) (show 2 ≤ 100000 by decide)) (ea_cons (ev_tup (ds := [.str "take", .non]) (ea2 ev_str ev_non) (show 2 ≤ 100000 by decide)) (ea3 ev_non (ev_tup (ds := []) ea_nil (show 0 ≤ 100000 by decide)) ev_str)))))) (show 8 ≤ 100000 by decide)).lst ?_
    obtain ⟨d1, hd1, at1⟩ := at_tkD p4 (oddD nm ln) 8 rfl (by intro z; cases z)
    have f := odd_ok (m := es.length) (nl n1) (nl hlnm) hd1
    exact g_ret hR (ev_ixV (ds := oddD nm ln) (ev_var rfl) (ev_take (kr := []) (ev_var rfl) ev_int (o4.up (by omega)) (by decide) (by decide)) .vl at1) ⟨_, _, rfl, rfl, (tk_ok o4 (m := 8) (by decide)).up (by omega), f.1, f.2.1, f.2.2⟩
  refine q_when (b := (kd' == 6)) (et_test (ev_eqI (ev_var rfl) ev_int)) (fun _ => ?_) (fun _ => ?_)
  · obtain ⟨d1, hd1, at1⟩ := at_tkD p4 (stD ["take", "drop"]) 2 rfl (by intro z; cases z)
    obtain ⟨s, hs, rfl⟩ := List.mem_map.mp hd1
    have f : DeedK (.tup (stD [s, ln])) ∧ PutN es.length (.tup (stD [s, ln])) ∧ pl 60 (.tup (stD [s, ln])) = true := by
      rcases List.mem_cons.mp hs with rfl | hs
      · exact two (by decide) (by decide) hlnm
      · rw [List.mem_singleton.mp hs]
        exact two (by decide) (by decide) hlnm
    exact g_ret hR (ev_tup (ds := stD [s, ln]) (ea2 (ev_ixV (ds := stD ["take", "drop"]) (evn_lst (ds := stD ["take", "drop"]) (ea2 ev_str ev_str) (show 2 ≤ 100000 by decide)).lst (ev_take (kr := []) (ev_var rfl) ev_int (o4.up (by omega)) (by decide) (by decide)) .vl at1) (ev_var rfl)) (show 2 ≤ 100000 by decide)) ⟨_, _, rfl, rfl, (tk_ok o4 (m := 2) (by decide)).up (by omega), f.1, f.2.1, f.2.2⟩
  have f := two (k := "want") (by decide) (by decide) hlnm
  exact g_ret hR (ev_tup (ds := stD ["want", ln]) (ea2 ev_str (ev_var rfl)) (show 2 ≤ 100000 by decide)) ⟨_, _, rfl, rfl, o4.up (by omega), f.1, f.2.1, f.2.2⟩
end
def ct_law_form (K : PySem.W.Frag) : Ct := Ct1 fun b ka out => ∃ (d : D), b = .val d ∧ DeedD d ∧ ka = [] ∧ out = Rt (.bl (deedF d)) []
section
variable {P : Program} {w : World} {K : PySem.W.Frag} {mg : Str → Option Value} {base : Heap}
theorem ok_law_form (T : Tx K mg) : Fn P w K mg base 4 (He.ga K "_law_form") ["_law_deed_here"] (ct_law_form K) := by
  obtain ⟨fd, F⟩ := T.d_law_form
  refine fn_ok F sc_law_form (fun _ _ _ _ _ _ us hl => match us, hl with | [_], _ => rfl) ct1_len (fun cdv A outer s H E hr => ⟨_, (pss_cons (ps_if (PW.pt (pw_or (pt_not (pt_val (pe_callB call_isi rfl T.n_isinstance (by decide +kernel) (pa_cons (pv 0) (pa_cons (pe_bltn (v := .ty "tuple") rfl T.n_tuple (by decide +kernel) rfl) pa_nil))))) (pw_or1 (pt_cmpR (op_neP (by have := (hr).units; exact this)) (pe_lc (te := (tVar 1)) (tt := (tNot (tB (tCB (rIsi K) (tCons (tVar 1) (tCons (tC (.ty "str")) tNil)))))) (own := [("_law_word", 1)]) rfl sc_law_form.nd (pi_seq (pv 0)) (blk_ok ["_law_deed_here", "_law_word"] (defScope s_law_form) rfl rfl (by decide +kernel)) (fun _ _ _ _ _ => (pg_name (i := 1) sc_law_form.nd rfl (by first | exact Or.inl rfl | exact Or.inr rfl))) (fun _ _ _ _ _ => (pts_one (pt_not (pt_val (pe_callB call_isi rfl T.n_isinstance (by decide +kernel) (pa_cons (pv 1) (pa_cons (pe_bltn (v := .ty "str") rfl T.n_str (by decide +kernel) rfl) pa_nil))))))) (fun _ _ _ _ _ => (pv 1))) (pe_lst pa_nil) (nomark _)))))
      (pss_one (ps_ret pe_bl))
      pss_nil)
      (pss_cons (ps_if (pt_cmpR (op_eqP (by have := (hr).units; exact this)) (pe_callB call_lenU rfl T.n_len (by decide +kernel) (pa_cons (pv 0) pa_nil)) pe_int (nomark _))
      (pss_one (ps_ret (pe_cmpR (op_eqP (by have := (hr).units; exact this)) (pe_ix ix_seq (pv 0) pe_int fun _ _ => rfl) pe_str (nomark _))))
      pss_nil)
      (pss_one (ps_ret (pe_and (pe_cmpR (op_eqP (by have := (hr).units; exact this)) (pe_callB call_lenU rfl T.n_len (by decide +kernel) (pa_cons (pv 0) pa_nil)) pe_int (nomark _)) (pe_one (pe_cmpR op_inU (pe_ix ix_seq (pv 0) pe_int fun _ _ => rfl) (pe_tup (pa_cons pe_str (pa_cons pe_str (pa_cons pe_str pa_nil)))) (by with_unfolding_all rfl)))))))), fun ws ka out B F0 Q hC hR hX => ?_⟩)
  obtain ⟨b, rfl, d, rfl, hd, rfl, rfl⟩ := hC
  rcases hd with rfl | ⟨s, rfl⟩ | ⟨ds, rfl, hl⟩ | ⟨ds, rfl, hl, hds⟩
  · exact q_when (b := true) (et_or1 ((et_not (et_test (ev_isi (ev_var rfl) (DL.tw_of (T := "NoneType") rfl) T.kt_NoneType_tuple))).to rfl)) (fun _ => g_ret hR ev_bl ⟨rfl, rfl⟩) (fun z => by cases z)
  · exact q_when (b := true) (et_or1 ((et_not (et_test (ev_isi (ev_var rfl) (DL.tw_of (T := "str") rfl) T.kt_str_tuple))).to rfl)) (fun _ => g_ret hR ev_bl ⟨rfl, rfl⟩) (fun z => by cases z)
  · exact q_when (b := true) (et_or1 ((et_not (et_test (ev_isi (ev_var rfl) (DL.tw_of (T := "list") rfl) T.kt_list_tuple))).to rfl)) (fun _ => g_ret hR ev_bl ⟨rfl, rfl⟩) (fun z => by cases z)
  have isS : ∀ x ∈ ds, ∀ {ro : Ro}, ro[1]? = some (some (.val x)) → EvD K (tCB (rIsi K) (tCons (tVar 1) (tCons (tC (.ty "str")) tNil))) ro [] (.val (.bl (isSD x))) [] := fun x hx ro h => by
    rcases hds x hx with rfl | ⟨s, rfl⟩
    · exact ev_isi (ev_var h) (DL.tw_of (T := "NoneType") rfl) T.kt_NoneType_str
    · exact ev_isi (ev_var h) (DL.tw_of (T := "str") rfl) T.kt_str_str
  have isT := et_test (ev_isi (K := K) (te := tVar 0) (ro := [some (.val (.tup ds)), none]) (ka := []) (ev_var rfl) (DL.tw_of (T := "tuple") rfl) T.kt_tuple_tuple)
  have odd : EvD K (tLc (iSeq K (tVar 0)) (gName 1) (tNot (tTest (tCB (rIsi K) (tCons (tVar 1) (tCons (tC (.ty "str")) tNil))))) (tVar 1) [1]) [some (.val (.tup ds)), none] [] (.val (.lst (ds.filter fun x => !isSD x))) [] := (evn_filt (xs := ds) (g := fun d => W.val d) (f := fun d => d) (p := fun x => !isSD x) (ei_seq (ev_var rfl) .vt) (by decide) (by omega) ⟨trivial, fun _ => trivial⟩ (fun x hx => et_not (et_test (isS x hx rfl))) (fun x hx _ => ev_var rfl)).lst.to (by rw [List.map_id'])
  have fp : (ds.filter fun x => !isSD x).all (pl 60) = true := List.all_eq_true.mpr fun x hx => by
    rcases hds x (List.mem_filter.mp hx).1 with rfl | ⟨s, rfl⟩ <;> rfl
  cases ha : ds.all isSD with
  | false =>
    have hf : deedF (.tup ds) = false := by
      show (ds.all isSD && _) = false
      rw [ha]; rfl
    rw [hf] at hR
    obtain ⟨x, hx, hx2⟩ : ∃ x ∈ ds, isSD x = false := by
      have := List.all_eq_false.mp ha
      obtain ⟨x, hx, h⟩ := this
      exact ⟨x, hx, by simpa using h⟩
    have ne : eqD (.lst (ds.filter fun x => !isSD x)) (.lst []) = false := by
      cases hq : ds.filter fun x => !isSD x with
      | nil =>
        have : x ∈ ds.filter fun x => !isSD x := List.mem_filter.mpr ⟨hx, by rw [hx2]; rfl⟩
        rw [hq] at this
        cases this
      | cons y t => rfl
    exact q_when (b := true) (et_or0 ((et_not isT).to (b := false) rfl) ((et_test (ev_ne (d := .lst (ds.filter fun x => !isSD x)) (e := .lst []) odd (evn_lst (ds := []) ea_nil (by decide)).lst .v .v fp rfl)).to (by rw [ne]; rfl))) (fun _ => g_ret hR ev_bl ⟨rfl, rfl⟩) (fun z => by cases z)
  | true =>
  obtain ⟨ss, rfl⟩ := all_strs ha
  have fe : (stD ss).filter (fun x => !isSD x) = [] := List.filter_eq_nil_iff.mpr fun x hx => by
    obtain ⟨s, _, rfl⟩ := List.mem_map.mp hx
    exact fun z => by cases z
  rw [fe] at odd
  refine q_when (b := false) (et_or0 ((et_not isT).to (b := false) rfl) ((et_test (ev_ne (d := .lst []) (e := .lst []) odd (evn_lst (ds := []) ea_nil (by decide)).lst .v .v rfl rfl)).to rfl)) (fun z => by cases z) (fun _ => ?_)
  have hf : deedF (.tup (stD ss)) = (match stD ss with
      | [.str x, _, _, _] => decide (x ∈ (["put"] : List Str))
      | [.str x, _] => decide (x ∈ (["take", "want", "drop"] : List Str))
      | _ => false) := by
    show ((stD ss).all isSD && _) = _
    rw [ha]; rfl
  rw [hf] at hR
  have ln : ∀ {ro : Ro}, ro[0]? = some (some (.val (.tup (stD ss)))) → EvD K (tCB (rLenU K) (tCons (tVar 0) tNil)) ro [] (.val (.int ((stD ss).length : Nat))) [] := fun h => ev_len (ev_var h) .vt
  clear isS hds isT odd fe fp hf
  have ix0 : ∀ {ro : Ro} {a : Str} {t : List Str}, ro[0]? = some (some (.val (.tup (stD (a :: t))))) → EvD K (tOp (rIx K) (tVar 0) (tC (.int 0))) ro [] (.val (.str a)) [] := fun h => ev_ixV (ev_var h) ev_int .vt (atI_nat (j := 0) rfl)
  obtain _ | ⟨a, _ | ⟨b, _ | ⟨c, _ | ⟨e, _ | ⟨f, r⟩⟩⟩⟩⟩ := ss
  · exact q_when (b := false) ((et_test (ev_eqI (j := 4) (ln rfl) ev_int)).to rfl) (fun z => by cases z) (fun _ => g_ret hR (ev_andV0 ((ev_eqI (j := 2) (ln rfl) ev_int).to rfl)) ⟨rfl, rfl⟩)
  · exact q_when (b := false) ((et_test (ev_eqI (j := 4) (ln rfl) ev_int)).to rfl) (fun z => by cases z) (fun _ => g_ret hR (ev_andV0 ((ev_eqI (j := 2) (ln rfl) ev_int).to rfl)) ⟨rfl, rfl⟩)
  · exact q_when (b := false) ((et_test (ev_eqI (j := 4) (ln rfl) ev_int)).to rfl) (fun z => by cases z) (fun _ => g_ret hR (ev_andV1 ((ev_eqI (j := 2) (ln rfl) ev_int).to rfl) (ev_inL (ss := ["take", "want", "drop"]) (ix0 (t := [b]) rfl) (ev_tup (ds := stD ["take", "want", "drop"]) (ea3 ev_str ev_str ev_str) (show 3 ≤ 100000 by decide)) .vt)) ⟨rfl, rfl⟩)
  · exact q_when (b := false) ((et_test (ev_eqI (j := 4) (ln rfl) ev_int)).to rfl) (fun z => by cases z) (fun _ => g_ret hR (ev_andV0 ((ev_eqI (j := 2) (ln rfl) ev_int).to rfl)) ⟨rfl, rfl⟩)
  · exact q_when (b := true) ((et_test (ev_eqI (j := 4) (ln rfl) ev_int)).to rfl) (fun _ => g_ret hR ((ev_eq (d := .str a) (e := .str "put") (ix0 (t := [b, c, e]) rfl) ev_str .v .v rfl rfl).to (congrArg (fun z => W.val (.bl z)) (show decide (a = "put") = decide (a ∈ (["put"] : List Str)) from decide_eq_decide.mpr List.mem_singleton.symm))) ⟨rfl, rfl⟩) (fun z => by cases z)
  · have gg : ∀ m : Nat, m < 5 → ((((stD (a :: b :: c :: e :: f :: r)).length : Nat) : Int) == (m : Int)) = false := fun m hm => by
      rw [stD_len, beq_eq_false_iff_ne, List.length_cons, List.length_cons, List.length_cons, List.length_cons, List.length_cons]
      omega
    exact q_when (b := false) ((et_test (ev_eqI (j := 4) (ln rfl) ev_int)).to (gg 4 (by decide))) (fun z => by cases z) (fun _ => g_ret hR (ev_andV0 ((ev_eqI (j := 2) (ln rfl) ev_int).to (congrArg (fun z => W.val (.bl z)) (gg 2 (by decide))))) ⟨rfl, rfl⟩)
end
/-- what the law tells of a deed at a place -/
def tolQ (S : Sc) (p : Int) (d : D) : D := match doE S p d with
  | some (C, _, x) => .tup [.str C, x]
  | none => .non
def ct_law_due (K : PySem.W.Frag) : Ct := Ct4 fun a b c e ka out => ∃ S ws d p, a = .val (PtD S.ps S.es) ∧ b = .val (.lst (stD ws)) ∧ c = .val d ∧ e = .val (.int p) ∧ (∀ l ∈ lnN S.es, l ∈ S.gs ↔ l ∈ ws) ∧ DeedD d ∧ PutN S.es.length d ∧ S.es.length ≤ 9000 ∧ ka = [] ∧ out = Rt (tolQ S p d) []
section
variable {P : Program} {w : World} {K : PySem.W.Frag} {mg : Str → Option Value} {base : Heap}
theorem ok_law_due (T : Tx K mg) (F_law_lanes : Fn P w K mg base 4 (He.ga K "_law_lanes") ["_law_parts"] (ct_law_lanes K)) (F_law_form : Fn P w K mg base 4 (He.ga K "_law_form") ["_law_deed_here"] (ct_law_form K)) : Fn P w K mg base 6 (He.ga K "_law_due") ["_law_parts", "_law_wanted", "_law_deed_here", "_law_place"] (ct_law_due K) := by
  obtain ⟨fd, F⟩ := T.d_law_due
  refine fn_ok F sc_law_due (fun _ _ _ _ _ _ us hl => match us, hl with | [_, _, _, _], _ => rfl) ct4_len (fun cdv A outer s H E hr => ⟨_, (pss_cons (ps_if (pt_not (pt_val (pe_call (F_law_form.up (by decide)).ok hr rfl T.g_law_form.1 T.g_law_form.2 (F_law_form.up (by decide)).bn .nil (pass_own rfl rfl rfl rfl) (pa_cons (pv 2) pa_nil))))
      (pss_one (ps_ret (pe_tup (pa_cons pe_str (pa_cons (pv 3) pa_nil)))))
      pss_nil)
      (pss_cons (ps_set (i := 4) sc_law_due.nd rfl (by first | exact Or.inl rfl | exact Or.inr rfl) (pe_call (F_law_lanes.up (by decide)).ok hr rfl T.g_law_lanes.1 T.g_law_lanes.2 (F_law_lanes.up (by decide)).bn .nil (pass_own rfl rfl rfl rfl) (pa_cons (pv 0) pa_nil)))
      (pss_cons (ps_set (i := 5) sc_law_due.nd rfl (by first | exact Or.inl rfl | exact Or.inr rfl) (pe_ix ix_seq (pv 2) pe_int fun _ _ => rfl))
      (pss_cons (ps_if (pt_cmpR (op_eqP (by have := (hr).units; exact this)) (pe_ix ix_seq (pv 2) pe_int fun _ _ => rfl) pe_str (nomark _))
      (pss_cons (ps_if (pt_cmpR op_inU (pv 5) (pe_tup (pa_cons pe_str (pa_cons pe_str pa_nil))) (by with_unfolding_all rfl))
      (pss_one (ps_ret (pe_tup (pa_cons pe_str (pa_cons (pv 5) pa_nil)))))
      pss_nil)
      (pss_cons (ps_if (pt_cmpR op_inU (pv 5) (pv 4) (by with_unfolding_all rfl))
      (pss_one (ps_ret (pe_tup (pa_cons pe_str (pa_cons (pv 5) pa_nil)))))
      pss_nil)
      (pss_cons (ps_setLc (i := 7) (te := (tVar 6)) (tt := (tTest (tOp (rNiU K) (tVar 6) (tOp (rIx K) (tVar 0) (tC (.int 0)))))) (own := [("_law_post", 6)]) rfl sc_law_due.nd rfl rfl rfl (pi_seq (pe_slice sl_U (pv 2) (po_some pe_int) po_none)) (blk_ok ["_law_parts", "_law_wanted", "_law_deed_here", "_law_place", "_law_lanes_here", "_law_lane", "_law_post", "_law_strange"] (defScope s_law_due) rfl rfl (by decide +kernel)) (fun _ _ _ _ _ => (pg_name (i := 6) sc_law_due.nd rfl (by first | exact Or.inl rfl | exact Or.inr rfl))) (fun _ _ _ _ _ => (pts_one (pt_cmpR op_niU (pv 6) (pe_ix ix_seq (pv 0) pe_int fun _ _ => rfl) (by with_unfolding_all rfl)))) (fun _ _ _ _ _ => (pv 6)))
      (pss_one (ps_ret (pe_ifExp (pt_cmpR (op_neP (by have := (hr).units; exact this)) (pv 7) (pe_lst pa_nil) (nomark _)) (pe_tup (pa_cons pe_str (pa_cons (pe_ix ix_seq (pv 7) pe_int fun _ _ => rfl) pa_nil))) pe_non))))))
      pss_nil)
      (pss_cons (ps_if (pt_cmpR op_niU (pv 5) (pv 4) (by with_unfolding_all rfl))
      (pss_one (ps_ret (pe_tup (pa_cons pe_str (pa_cons (pv 5) pa_nil)))))
      pss_nil)
      (pss_cons (ps_if (pt_cmpR (op_eqP (by have := (hr).units; exact this)) (pe_ix ix_seq (pv 2) pe_int fun _ _ => rfl) pe_str (nomark _))
      (pss_one (ps_ret (pe_ifExp (pt_cmpR op_inU (pv 5) (pv 1) (by with_unfolding_all rfl)) (pe_tup (pa_cons pe_str (pa_cons (pv 5) pa_nil))) pe_non)))
      pss_nil)
      (pss_cons (ps_if (pt_cmpR (op_eqP (by have := (hr).units; exact this)) (pe_ix ix_seq (pv 2) pe_int fun _ _ => rfl) pe_str (nomark _))
      (pss_one (ps_ret (pe_ifExp (pt_cmpR op_inU (pv 5) (pv 1) (by with_unfolding_all rfl)) (pe_tup (pa_cons pe_str (pa_cons (pv 5) pa_nil))) pe_non)))
      pss_nil)
      (pss_one (ps_ret (pe_ifExp (pt_cmpR op_niU (pv 5) (pv 1) (by with_unfolding_all rfl)) (pe_tup (pa_cons pe_str (pa_cons (pv 5) pa_nil))) pe_non)))))))))), fun ws ka out B F0 Q hC hR hX => ?_⟩)
  obtain ⟨a, b, c, e, rfl, S, ws, d, p, rfl, rfl, rfl, rfl, hgs, hd, hpn, hel, rfl, rfl⟩ := hC
  unfold tolQ at hR
  cases hf : deedF d with
  | false =>
    have e0 : doE S p d = erD "BadDeed" "place" (.int p) := by unfold doE; rw [if_pos hf]
    rw [e0] at hR
    refine q_when (b := true) ((et_not (et_B (ev_callP (ea1 (ev_var rfl)) ⟨_, rfl, d, rfl, hd, rfl, rfl⟩))).to (by rw [hf]; rfl)) (fun _ => ?_) (fun z => by cases z)
    exact g_ret hR (ev_tup (ds := [.str "BadDeed", .int p]) (ea2 ev_str (ev_var rfl)) (show 2 ≤ 100000 by decide)) ⟨rfl, rfl⟩
  | true =>
  refine q_when (b := false) ((et_not (et_B (ev_callP (ea1 (ev_var rfl)) ⟨_, rfl, d, rfl, hd, rfl, rfl⟩))).to (by rw [hf]; rfl)) (fun z => by cases z) (fun _ => ?_)
  refine q_asg (w := .val (.lst (stD (lnN S.es)))) (ev_callP (ea1 (ev_var rfl)) ⟨_, rfl, S.ps, S.es, rfl, by omega, rfl, rfl⟩) ?_
  rcases deed_words hf with ⟨l, x, y, rfl⟩ | ⟨k, l, rfl, hk⟩
  · refine q_asg (w := .val (.str l)) (ev_ixV (ev_var rfl) ev_int .vt (atI_nat (j := 1) rfl)) ?_
    have h0 : doE S p (.tup (stD ["put", l, x, y])) = if isNm l = false then erD "BadName" "name" (.str l) else if l ∈ lnN S.es then erD "NameTaken" "name" (.str l) else if ¬ x ∈ S.ps then erD "NoPost" "name" (.str x) else if ¬ y ∈ S.ps then erD "NoPost" "name" (.str y) else none := by
      unfold doE
      rw [if_neg (by rw [hf]; decide)]
      rfl
    rw [h0] at hR
    refine q_if (b := true) ((et_test (ev_eq (d := .str "put") (e := .str "put") (ev_ixV (ev_var rfl) ev_int .vt (atI_nat (j := 0) rfl)) ev_str .v .v rfl rfl)).to (by decide)) (fun _ => ?_) (fun z => by cases z)
    have bn : isNm l = false ↔ l ∈ (["A", ""] : List Str) := by
      constructor
      · intro h
        rcases (hpn l x y rfl).1 with h1 | rfl | rfl
        · rw [h1] at h; cases h
        · exact List.mem_cons_self
        · exact List.mem_cons_of_mem _ List.mem_cons_self
      · intro h
        rcases List.mem_cons.mp h with rfl | h
        · decide
        · rw [List.mem_singleton.mp h]; decide
    refine q_when (b := decide (l ∈ (["A", ""] : List Str))) (et_test (ev_inL (ss := ["A", ""]) (ev_var rfl) (ev_tup (ds := stD ["A", ""]) (ea2 ev_str ev_str) (show 2 ≤ 100000 by decide)) .vt)) (fun h => ?_) (fun h => ?_)
    · rw [if_pos (bn.mpr (of_decide_eq_true h))] at hR
      exact g_ret hR (ev_tup (ds := [.str "BadName", .str l]) (ea2 ev_str (ev_var rfl)) (show 2 ≤ 100000 by decide)) ⟨rfl, rfl⟩
    rw [if_neg fun z => of_decide_eq_false h (bn.mp z)] at hR
    refine q_when (b := decide (l ∈ lnN S.es)) (et_test (ev_inL (ev_var rfl) (ev_var rfl) .vl)) (fun h => ?_) (fun h => ?_)
    · rw [if_pos (of_decide_eq_true h)] at hR
      exact g_ret hR (ev_tup (ds := [.str "NameTaken", .str l]) (ea2 ev_str (ev_var rfl)) (show 2 ≤ 100000 by decide)) ⟨rfl, rfl⟩
    rw [if_neg (of_decide_eq_false h)] at hR
    refine q_asg (w := .val (.lst (stD (([x, y] : List Str).filter fun z => !decide (z ∈ S.ps))))) (evn_filt (xs := ([x, y] : List Str)) (g := fun s => W.val (.str s)) (f := fun s => D.str s) (p := fun z => !decide (z ∈ S.ps)) (ei_strsL (ss := [x, y]) (ev_slT (ds := stD ["put", l, x, y]) (ev_var rfl) (eo_some ev_int) eo_none) .vt) (by decide) (show 2 ≤ 1000000 by decide) ⟨trivial, fun _ => trivial⟩ (fun z hz => et_test (ev_niL (ev_var rfl) (ev_ixV (ev_var rfl) ev_int .vl (atI_nat (j := 0) rfl)) .vl)) (fun z hz _ => ev_var rfl)).lst ?_
    have nilT : ∀ ss : List Str, eqD (.lst (stD ss)) (.lst []) = decide (ss = []) := fun ss => by cases ss <;> rfl
    have tst : ∀ {ro : Ro} (ss : List Str), ro[7]? = some (some (.val (.lst (stD ss)))) → EvT K (tTest (tOp (rEqP K true) (tVar 7) (tLst tNil))) ro [] (!decide (ss = [])) [] := fun ss h => (et_test (ev_ne (d := .lst (stD ss)) (e := .lst []) (ev_var h) (evn_lst (ds := []) ea_nil (by decide)).lst .v .v (pl_stD _ 60) rfl)).to (by rw [nilT])
    have fl : ∀ (ss : List Str) (o : Option (Str × Str × D)), (match ss with | [] => o = none | z :: _ => o = erD "NoPost" "name" (.str z)) → RtOk K B F0 (Rt (match o with | some (C, _, x) => D.tup [.str C, x] | none => .non) []) Q → ∀ ro : Ro, ro[7]? = some (some (.val (.lst (stD ss)))) → Gp K B F0 [] (tRet (tIf (tTest (tOp (rEqP K true) (tVar 7) (tLst tNil))) (tTup (tCons (tC (.str "NoPost")) (tCons (tOp (rIx K) (tVar 7) (tC (.int 0))) tNil))) (tC .non)) { nx := fun _ H' => Q .non H', rt := Q }) ro [] := fun ss o ho hR ro h => by
      cases ss with
      | nil =>
        rw [show o = none from ho] at hR
        exact g_ret hR (ev_ifF (tst [] h) ev_non) ⟨rfl, rfl⟩
      | cons z t =>
        rw [show o = erD "NoPost" "name" (.str z) from ho] at hR
        exact g_ret hR (ev_ifT (tst (z :: t) h) (ev_tup (ds := [.str "NoPost", .str z]) (ea2 ev_str (ev_ixV (ev_var h) ev_int .vl (atI_nat (j := 0) rfl))) (show 2 ≤ 100000 by decide))) ⟨rfl, rfl⟩
    have hm : (match ([x, y] : List Str).filter (fun z => !decide (z ∈ S.ps)) with | [] => (if ¬ x ∈ S.ps then erD "NoPost" "name" (.str x) else if ¬ y ∈ S.ps then erD "NoPost" "name" (.str y) else none) = none | z :: _ => (if ¬ x ∈ S.ps then erD "NoPost" "name" (.str x) else if ¬ y ∈ S.ps then erD "NoPost" "name" (.str y) else none) = erD "NoPost" "name" (.str z)) := by
      by_cases hx : x ∈ S.ps
      · by_cases hy : y ∈ S.ps
        · simp [hx, hy]
        · simp [hx, hy]
      · simp [hx]
    exact fl _ _ hm hR _ rfl
  refine q_asg (w := .val (.str l)) (ev_ixV (ev_var rfl) ev_int .vt (atI_nat (j := 1) rfl)) ?_
  have kn : k ≠ "put" := by rcases hk with rfl | rfl | rfl <;> decide
  refine q_when (b := false) ((et_test (ev_eq (d := .str k) (e := .str "put") (ev_ixV (ev_var rfl) ev_int .vt (atI_nat (j := 0) rfl)) ev_str .v .v rfl rfl)).to (show decide (k = "put") = false from decide_eq_false kn)) (fun z => by cases z) (fun _ => ?_)
  refine q_when (b := !decide (l ∈ lnN S.es)) (et_test (ev_niL (ev_var rfl) (ev_var rfl) .vl)) (fun h => ?_) (fun h => ?_)
  · rw [Bool.not_eq_true'] at h
    have e0 : doE S p (.tup (stD [k, l])) = erD "NoLane" "name" (.str l) := by
      unfold doE
      rw [if_neg (by rw [hf]; decide)]
      exact if_pos (of_decide_eq_false h)
    rw [e0] at hR
    exact g_ret hR (ev_tup (ds := [.str "NoLane", .str l]) (ea2 ev_str (ev_var rfl)) (show 2 ≤ 100000 by decide)) ⟨rfl, rfl⟩
  rw [Bool.not_eq_false'] at h
  have hm := of_decide_eq_true h
  have dE : doE S p (.tup (stD [k, l])) = if k = "take" then (if l ∈ S.gs then erD "StillWanted" "name" (.str l) else none) else if k = "want" then (if l ∈ S.gs then erD "NameTaken" "name" (.str l) else none) else if l ∈ S.gs then none else erD "NotWanted" "name" (.str l) := by
    unfold doE
    rw [if_neg (by rw [hf]; decide)]
    exact if_neg fun z => z hm
  rw [dE] at hR
  have inW : ∀ {ro : Ro} (b : Bool), ro[1]? = some (some (.val (.lst (stD ws)))) → ro[5]? = some (some (.val (.str l))) → decide (l ∈ ws) = b → EvT K (tTest (tOp (rInU K) (tVar 5) (tVar 1))) ro [] b [] := fun b h1 h2 e => (et_test (ev_inL (ev_var h2) (ev_var h1) .vl)).to e
  rcases hk with rfl | rfl | rfl
  · rw [if_pos rfl] at hR
    refine q_when (b := true) ((et_test (ev_eq (d := .str "take") (e := .str "take") (ev_ixV (ev_var rfl) ev_int .vt (atI_nat (j := 0) rfl)) ev_str .v .v rfl rfl)).to (by decide)) (fun _ => ?_) (fun z => by cases z)
    by_cases hw : l ∈ ws
    · rw [if_pos ((hgs l hm).mpr hw)] at hR
      exact g_ret hR (ev_ifT (inW true rfl rfl (decide_eq_true hw)) (ev_tup (ds := [.str "StillWanted", .str l]) (ea2 ev_str (ev_var rfl)) (show 2 ≤ 100000 by decide))) ⟨rfl, rfl⟩
    · rw [if_neg fun z => hw ((hgs l hm).mp z)] at hR
      exact g_ret hR (ev_ifF (inW false rfl rfl (decide_eq_false hw)) ev_non) ⟨rfl, rfl⟩
  · rw [if_neg (by decide), if_pos rfl] at hR
    refine q_when (b := false) ((et_test (ev_eq (d := .str "want") (e := .str "take") (ev_ixV (ev_var rfl) ev_int .vt (atI_nat (j := 0) rfl)) ev_str .v .v rfl rfl)).to (by decide)) (fun z => by cases z) (fun _ => ?_)
    refine q_when (b := true) ((et_test (ev_eq (d := .str "want") (e := .str "want") (ev_ixV (ev_var rfl) ev_int .vt (atI_nat (j := 0) rfl)) ev_str .v .v rfl rfl)).to (by decide)) (fun _ => ?_) (fun z => by cases z)
    by_cases hw : l ∈ ws
    · rw [if_pos ((hgs l hm).mpr hw)] at hR
      exact g_ret hR (ev_ifT (inW true rfl rfl (decide_eq_true hw)) (ev_tup (ds := [.str "NameTaken", .str l]) (ea2 ev_str (ev_var rfl)) (show 2 ≤ 100000 by decide))) ⟨rfl, rfl⟩
    · rw [if_neg fun z => hw ((hgs l hm).mp z)] at hR
      exact g_ret hR (ev_ifF (inW false rfl rfl (decide_eq_false hw)) ev_non) ⟨rfl, rfl⟩
  · rw [if_neg (by decide), if_neg (by decide)] at hR
    refine q_when (b := false) ((et_test (ev_eq (d := .str "drop") (e := .str "take") (ev_ixV (ev_var rfl) ev_int .vt (atI_nat (j := 0) rfl)) ev_str .v .v rfl rfl)).to (by decide)) (fun z => by cases z) (fun _ => ?_)
    refine q_when (b := false) ((et_test (ev_eq (d := .str "drop") (e := .str "want") (ev_ixV (ev_var rfl) ev_int .vt (atI_nat (j := 0) rfl)) ev_str .v .v rfl rfl)).to (by decide)) (fun z => by cases z) (fun _ => ?_)
    have niW : ∀ {ro : Ro} (b : Bool), ro[1]? = some (some (.val (.lst (stD ws)))) → ro[5]? = some (some (.val (.str l))) → (!decide (l ∈ ws)) = b → EvT K (tTest (tOp (rNiU K) (tVar 5) (tVar 1))) ro [] b [] := fun b h1 h2 e => (et_test (ev_niL (ev_var h2) (ev_var h1) .vl)).to e
    by_cases hw : l ∈ ws
    · rw [if_pos ((hgs l hm).mpr hw)] at hR
      exact g_ret hR (ev_ifF (niW false rfl rfl (by rw [decide_eq_true hw]; rfl)) ev_non) ⟨rfl, rfl⟩
    · rw [if_neg fun z => hw ((hgs l hm).mp z)] at hR
      exact g_ret hR (ev_ifT (niW true rfl rfl (by rw [decide_eq_false hw]; rfl)) (ev_tup (ds := [.str "NotWanted", .str l]) (ea2 ev_str (ev_var rfl)) (show 2 ≤ 100000 by decide))) ⟨rfl, rfl⟩
end
theorem cut1_eq (es : List Ln) (l : Str) : cutE es [l] = cut1E es l := List.filter_congr fun r _ => by
  rw [Bool.eq_iff_iff]
  simp
def ct_law_after (K : PySem.W.Frag) : Ct := Ct3 fun a b c ka out => ∃ ps es ws d, a = .val (PtD ps es) ∧ b = .val (.lst (stD ws)) ∧ c = .val d ∧ deedF d = true ∧ es.length ≤ 9000 ∧ ws.length ≤ 9000 ∧ ka = [] ∧ out = Rt (.lst [PtD ps (aftE es d), .lst (stD (aftW ws d))]) []
section
variable {P : Program} {w : World} {K : PySem.W.Frag} {mg : Str → Option Value} {base : Heap}
theorem ok_law_after (T : Tx K mg) (F_law_drop : Fn P w K mg base 4 (He.ga K "_law_drop") ["_law_parts", "_law_lanes_here"] (ct_law_drop K)) : Fn P w K mg base 6 (He.ga K "_law_after") ["_law_parts", "_law_wanted", "_law_deed_here"] (ct_law_after K) := by
  obtain ⟨fd, F⟩ := T.d_law_after
  refine fn_ok F sc_law_after (fun _ _ _ _ _ _ us hl => match us, hl with | [_, _, _], _ => rfl) ct3_len (fun cdv A outer s H E hr => ⟨_, (pss_cons (ps_set (i := 3) sc_law_after.nd rfl (by first | exact Or.inl rfl | exact Or.inr rfl) (pe_ix ix_seq (pv 2) pe_int fun _ _ => rfl))
      (pss_cons (ps_if (pt_cmpR (op_eqP (by have := (hr).units; exact this)) (pe_ix ix_seq (pv 2) pe_int fun _ _ => rfl) pe_str (nomark _))
      (pss_one (ps_ret (pe_lst (pa_cons (pe_lst (pa_cons (pe_ix ix_seq (pv 0) pe_int fun _ _ => rfl) (pa_cons (pe_op op_addU (pe_ix ix_seq (pv 0) pe_int fun _ _ => rfl) (pe_lst (pa_cons (pe_tup (pa_cons (pv 3) (pa_cons (pe_ix ix_seq (pv 2) pe_int fun _ _ => rfl) (pa_cons (pe_ix ix_seq (pv 2) pe_int fun _ _ => rfl) pa_nil)))) pa_nil))) pa_nil))) (pa_cons (pv 1) pa_nil)))))
      pss_nil)
      (pss_cons (ps_if (pt_cmpR (op_eqP (by have := (hr).units; exact this)) (pe_ix ix_seq (pv 2) pe_int fun _ _ => rfl) pe_str (nomark _))
      (pss_one (ps_ret (pe_lst (pa_cons (pe_call (F_law_drop.up (by decide)).ok hr rfl T.g_law_drop.1 T.g_law_drop.2 (F_law_drop.up (by decide)).bn .nil (pass_own rfl rfl rfl rfl) (pa_cons (pv 0) (pa_cons (pe_lst (pa_cons (pv 3) pa_nil)) pa_nil))) (pa_cons (pv 1) pa_nil)))))
      pss_nil)
      (pss_cons (ps_if (pt_cmpR (op_eqP (by have := (hr).units; exact this)) (pe_ix ix_seq (pv 2) pe_int fun _ _ => rfl) pe_str (nomark _))
      (pss_one (ps_ret (pe_lst (pa_cons (pv 0) (pa_cons (pe_op op_addU (pv 1) (pe_lst (pa_cons (pv 3) pa_nil))) pa_nil)))))
      pss_nil)
      (pss_one (ps_ret (pe_lst (pa_cons (pv 0) (pa_cons (pe_lc (te := (tVar 4)) (tt := (tTest (tOp (rEqP K true) (tVar 4) (tVar 3)))) (own := [("_law_one", 4)]) rfl sc_law_after.nd (pi_seq (pv 1)) (blk_ok ["_law_parts", "_law_wanted", "_law_deed_here", "_law_lane", "_law_one"] (defScope s_law_after) rfl rfl (by decide +kernel)) (fun _ _ _ _ _ => (pg_name (i := 4) sc_law_after.nd rfl (by first | exact Or.inl rfl | exact Or.inr rfl))) (fun _ _ _ _ _ => (pts_one (pt_cmpR (op_neP (by have := (hr).units; exact this)) (pv 4) (pv 3) (nomark _)))) (fun _ _ _ _ _ => (pv 4))) pa_nil))))))))), fun ws ka out B F0 Q hC hR hX => ?_⟩)
  obtain ⟨a, b, c, rfl, ps, es, ws, d, rfl, rfl, rfl, hf, hel, hwl, rfl, rfl⟩ := hC
  rcases deed_words hf with ⟨l, p, q, rfl⟩ | ⟨k, l, rfl, hk⟩
  · refine q_asg (w := .val (.str l)) (ev_ixV (ev_var rfl) ev_int .vt (atI_nat (j := 1) rfl)) ?_
    refine q_when (b := true) ((et_test (ev_eq (d := .str "put") (e := .str "put") (ev_ixV (ev_var rfl) ev_int .vt (atI_nat (j := 0) rfl)) ev_str .v .v rfl rfl)).to (by decide)) (fun _ => ?_) (fun z => by cases z)
    exact g_ret hR (evn_lst (ds := [PtD ps (es ++ [(l, p, q)]), .lst (stD ws)]) (ea2 (evn_lst (ds := [.lst (stD ps), .lst (rwD (es ++ [(l, p, q)]))]) (ea2 (ev_ixV (ev_var rfl) ev_int .vl (atI_nat (j := 0) rfl)) ((evn_op (ev_ixV (d := .lst (rwD es)) (ev_var rfl) ev_int .vl (atI_nat (j := 1) rfl)) (evn_lst (ds := [rwL (l, p, q)]) (ea1 (ev_tup (ds := [.str l, .str p, .str q]) (ea3 (ev_var rfl) (ev_ixV (ev_var rfl) ev_int .vt (atI_nat (j := 2) rfl)) (ev_ixV (ev_var rfl) ev_int .vt (atI_nat (j := 3) rfl))) (show 3 ≤ 100000 by decide))) (show 1 ≤ 100000 by decide)).lst (rvn_cat (b1 := false) (b2 := false) .vl .vl (by show (es.map rwL).length + 1 ≤ 100000; rw [List.length_map]; omega))).lst.to (congrArg (fun z => W.val (.lst z)) (show rwD es ++ [rwL (l, p, q)] = rwD (es ++ [(l, p, q)]) by unfold rwD; rw [List.map_append]; rfl)))) (show 2 ≤ 100000 by decide)).lst (ev_var rfl)) (show 2 ≤ 100000 by decide)).lst ⟨rfl, rfl⟩
  refine q_asg (w := .val (.str l)) (ev_ixV (ev_var rfl) ev_int .vt (atI_nat (j := 1) rfl)) ?_
  have kn : k ≠ "put" := by rcases hk with rfl | rfl | rfl <;> decide
  refine q_when (b := false) ((et_test (ev_eq (d := .str k) (e := .str "put") (ev_ixV (ev_var rfl) ev_int .vt (atI_nat (j := 0) rfl)) ev_str .v .v rfl rfl)).to (show decide (k = "put") = false from decide_eq_false kn)) (fun z => by cases z) (fun _ => ?_)
  rcases hk with rfl | rfl | rfl
  · refine q_when (b := true) ((et_test (ev_eq (d := .str "take") (e := .str "take") (ev_ixV (ev_var rfl) ev_int .vt (atI_nat (j := 0) rfl)) ev_str .v .v rfl rfl)).to (by decide)) (fun _ => ?_) (fun z => by cases z)
    exact g_ret hR (evn_lst (ds := [PtD ps (cut1E es l), .lst (stD ws)]) (ea2 ((ev_callP (ea2 (ev_var rfl) (evn_lst (ds := stD [l]) (ea1 (ev_var rfl)) (show 1 ≤ 100000 by decide)).lst) ⟨_, _, rfl, ps, es, [l], rfl, rfl, by omega, rfl, rfl⟩).to (by rw [cut1_eq])) (ev_var rfl)) (show 2 ≤ 100000 by decide)).lst ⟨rfl, rfl⟩
  · refine q_when (b := false) ((et_test (ev_eq (d := .str "want") (e := .str "take") (ev_ixV (ev_var rfl) ev_int .vt (atI_nat (j := 0) rfl)) ev_str .v .v rfl rfl)).to (by decide)) (fun z => by cases z) (fun _ => ?_)
    refine q_when (b := true) ((et_test (ev_eq (d := .str "want") (e := .str "want") (ev_ixV (ev_var rfl) ev_int .vt (atI_nat (j := 0) rfl)) ev_str .v .v rfl rfl)).to (by decide)) (fun _ => ?_) (fun z => by cases z)
    exact g_ret hR (evn_lst (ds := [PtD ps es, .lst (stD (ws ++ [l]))]) (ea2 (ev_var rfl) ((evn_op (ev_var rfl) (evn_lst (ds := stD [l]) (ea1 (ev_var rfl)) (show 1 ≤ 100000 by decide)).lst (rvn_cat (b1 := false) (b2 := false) .vl .vl (by rw [stD_len, stD_len]; show ws.length + 1 ≤ 100000; omega))).lst.to (congrArg (fun z => W.val (.lst z)) (stD_app ws [l])))) (show 2 ≤ 100000 by decide)).lst ⟨rfl, rfl⟩
  · refine q_when (b := false) ((et_test (ev_eq (d := .str "drop") (e := .str "take") (ev_ixV (ev_var rfl) ev_int .vt (atI_nat (j := 0) rfl)) ev_str .v .v rfl rfl)).to (by decide)) (fun z => by cases z) (fun _ => ?_)
    refine q_when (b := false) ((et_test (ev_eq (d := .str "drop") (e := .str "want") (ev_ixV (ev_var rfl) ev_int .vt (atI_nat (j := 0) rfl)) ev_str .v .v rfl rfl)).to (by decide)) (fun z => by cases z) (fun _ => ?_)
    exact g_ret hR (evn_lst (ds := [PtD ps es, .lst (stD (ws.filter fun x => !decide (x = l)))]) (ea2 (ev_var rfl) (evn_filt (xs := ws) (g := fun s => W.val (.str s)) (f := fun s => D.str s) (p := fun x => !decide (x = l)) (ei_strsL (ev_var rfl) .vl) (by decide) (by omega) ⟨trivial, fun _ => trivial⟩ (fun x hx => et_test (ev_ne (d := .str x) (e := .str l) (ev_var rfl) (ev_var rfl) .v .v rfl rfl)) (fun x hx _ => ev_var rfl)).lst) (show 2 ≤ 100000 by decide)).lst ⟨rfl, rfl⟩
end
def ct_law_same (K : PySem.W.Frag) : Ct := Ct4 fun a b c e ka out => ∃ a0 A S ws kc, a = .val (.adr a0) ∧ b = .val (PtD S.ps S.es) ∧ c = .val (.lst (stD ws)) ∧ ((e = .val (.lst S.dl) ∧ kc = []) ∨ ∃ c, e = .val (.adr c) ∧ kc = [(c, .lst S.dl)]) ∧ S.gs = goalL S.es ws ∧ (lnN S.es).Nodup ∧ S.ps.length ≤ 1000 ∧ S.es.length ≤ 1000 ∧ tIL S.dl = true ∧ S.dl.all (pl 60) = true ∧ ka = WaC K a0 A S ++ kc ∧ out = Rt (.bl true) (WaC K a0 A S ++ kc)
section
variable {P : Program} {w : World} {K : PySem.W.Frag} {mg : Str → Option Value} {base : Heap}
theorem ok_law_same (T : Tx K mg) (F_Net_posts : Fn P w K mg base 4 (pga K (He.ga K "Net") "posts") ["self"] (ct_Net_posts K)) (F_Net_lanes : Fn P w K mg base 4 (pga K (He.ga K "Net") "lanes") ["self"] (ct_Net_lanes K)) (F_Net_start_of : Fn P w K mg base 4 (He.ma K (He.ga K "Net") "start_of") ["self", "lane"] (ct_Net_start_of K)) (F_Net_end_of : Fn P w K mg base 4 (He.ma K (He.ga K "Net") "end_of") ["self", "lane"] (ct_Net_end_of K)) (F_Watch_net : Fn P w K mg base 8 (pga K (He.ga K "Watch") "net") ["self"] (ct_Watch_net K)) (F_Watch_wanted : Fn P w K mg base 4 (pga K (He.ga K "Watch") "wanted") ["self"] (ct_Watch_wanted K)) (F_Watch_told : Fn P w K mg base 4 (He.ma K (He.ga K "Watch") "told") ["self"] (ct_Watch_told K)) (F_law_lanes : Fn P w K mg base 4 (He.ga K "_law_lanes") ["_law_parts"] (ct_law_lanes K)) (F_law_in_order : Fn P w K mg base 4 (He.ga K "_law_in_order") ["_law_parts", "_law_lanes_here"] (ct_law_in_order K)) : Fn P w K mg base 10 (He.ga K "_law_same") ["_law_watch", "_law_parts", "_law_wanted", "_law_deeds"] (ct_law_same K) := by
  obtain ⟨fd, F⟩ := T.d_law_same
  refine fn_ok F sc_law_same (fun _ _ _ _ _ _ us hl => match us, hl with | [_, _, _, _], _ => rfl) ct4_len (fun cdv A outer s H E hr => ⟨_, (pss_cons (ps_set (i := 4) sc_law_same.nd rfl (by first | exact Or.inl rfl | exact Or.inr rfl) (pe_prop (pv 0) T.cl_Watch T.pr_Watch_net (F_Watch_net.up (by decide)).ok hr (F_Watch_net.up (by decide)).bn .nil passes_no rfl))
      (pss_cons (ps_if (PW.pt (pw_or (pt_cmpR (op_neP (by have := (hr).units; exact this)) (pe_prop (pv 4) T.cl_Net T.pr_Net_posts (F_Net_posts.up (by decide)).ok hr (F_Net_posts.up (by decide)).bn .nil passes_no rfl) (pe_callTy call_tupU rfl T.n_tuple (by decide +kernel) (pa_cons (pe_ix ix_seq (pv 1) pe_int fun _ _ => rfl) pa_nil)) (nomark _)) (pw_or1 (pt_cmpR (op_neP (by have := (hr).units; exact this)) (pe_prop (pv 4) T.cl_Net T.pr_Net_lanes (F_Net_lanes.up (by decide)).ok hr (F_Net_lanes.up (by decide)).bn .nil passes_no rfl) (pe_callTy call_tupU rfl T.n_tuple (by decide +kernel) (pa_cons (pe_call (F_law_lanes.up (by decide)).ok hr rfl T.g_law_lanes.1 T.g_law_lanes.2 (F_law_lanes.up (by decide)).bn .nil (pass_own rfl rfl rfl rfl) (pa_cons (pv 1) pa_nil)) pa_nil)) (nomark _)))))
      (pss_one (ps_ret pe_bl))
      pss_nil)
      (pss_cons (ps_if (pt_cmpR (op_neP (by have := (hr).units; exact this)) (pe_lc (te := (tVar 5)) (tt := (tTest (tOp (rEqP K true) (tTup (tCons (tMeth (He.ga K "Net") "start_of" (spC K (ct_Net_start_of K)) [] (fun _ _ _ => False) (tVar 4) (tCons (tOp (rIx K) (tVar 5) (tC (.int 0))) tNil)) (tCons (tMeth (He.ga K "Net") "end_of" (spC K (ct_Net_end_of K)) [] (fun _ _ _ => False) (tVar 4) (tCons (tOp (rIx K) (tVar 5) (tC (.int 0))) tNil)) tNil))) (tSl (rSlU K) (tVar 5) (tPart (tC (.int 1))) tNoPart)))) (own := [("_law_row", 5)]) rfl sc_law_same.nd (pi_seq (pe_ix ix_seq (pv 1) pe_int fun _ _ => rfl)) (blk_ok ["_law_watch", "_law_parts", "_law_wanted", "_law_deeds", "_law_net", "_law_row"] (defScope s_law_same) rfl rfl (by decide +kernel)) (fun _ _ _ _ _ => (pg_name (i := 5) sc_law_same.nd rfl (by first | exact Or.inl rfl | exact Or.inr rfl))) (fun _ _ _ _ _ => (pts_one (pt_cmpR (op_neP (by have := (hr).units; exact this)) (pe_tup (pa_cons (pe_meth (pv 4) T.cl_Net T.me_Net_start_of (F_Net_start_of.up (by decide)).ok hr (F_Net_start_of.up (by decide)).bn .nil passes_no (pa_cons (pe_ix ix_seq (pv 5) pe_int fun _ _ => rfl) pa_nil)) (pa_cons (pe_meth (pv 4) T.cl_Net T.me_Net_end_of (F_Net_end_of.up (by decide)).ok hr (F_Net_end_of.up (by decide)).bn .nil passes_no (pa_cons (pe_ix ix_seq (pv 5) pe_int fun _ _ => rfl) pa_nil)) pa_nil))) (pe_slice sl_U (pv 5) (po_some pe_int) po_none) (nomark _)))) (fun _ _ _ _ _ => (pv 5))) (pe_lst pa_nil) (nomark _))
      (pss_one (ps_ret pe_bl))
      pss_nil)
      (pss_one (ps_ret (pe_and (pe_cmpR (op_eqP (by have := (hr).units; exact this)) (pe_prop (pv 0) T.cl_Watch T.pr_Watch_wanted (F_Watch_wanted.up (by decide)).ok hr (F_Watch_wanted.up (by decide)).bn .nil passes_no rfl) (pe_call (F_law_in_order.up (by decide)).ok hr rfl T.g_law_in_order.1 T.g_law_in_order.2 (F_law_in_order.up (by decide)).bn .nil (pass_own rfl rfl rfl rfl) (pa_cons (pv 1) (pa_cons (pv 2) pa_nil))) (nomark _)) (pe_one (pe_cmpR (op_eqP (by have := (hr).units; exact this)) (pe_meth0 (pv 0) T.cl_Watch T.me_Watch_told (F_Watch_told.up (by decide)).ok hr (F_Watch_told.up (by decide)).bn .nil (pass_own rfl rfl rfl rfl)) (pv 3) (nomark _))))))))), fun ws ka out B F0 Q hC hR hX => ?_⟩)
  obtain ⟨a, b, c, e, rfl, a0, A, S, ws, kc, rfl, rfl, rfl, he, hg, hn, hpl, hel, hti, hpd, rfl, rfl⟩ := hC
  have hkd : ∀ p ∈ WaC K a0 A S ++ kc, ndK p.2 = true := fun p hp => by
    rcases List.mem_append.mp hp with h | h
    · exact wa_kd p h
    · rcases he with ⟨_, rfl⟩ | ⟨c, _, rfl⟩
      · cases h
      · rw [List.mem_singleton.mp h]; rfl
  have hpk : Pk (WaC K a0 A S ++ kc) e (.lst S.dl) := by
    rcases he with ⟨rfl, rfl⟩ | ⟨c, rfl, rfl⟩
    · exact .v
    · exact .c 8 rfl
  have fr : ∀ {ro : Ro}, ro[0]? = some (some (.val (.adr a0))) → RoT K (WaC K a0 A S ++ kc) ro (ro.set 0 (some (.val (WaD K S)))) := fun h => RoT.refl.set h (frz_wa fun _ z => List.mem_append_left _ z)
  refine q_asg (w := .val (NetD K S.ps S.es)) (EvR.d (k1 := WaC K a0 A S ++ kc) (P := fun w k => w = .val (NetD K S.ps S.es) ∧ k = WaC K a0 A S ++ kc) (EvR.frzU (EvR.thaw (k1 := []) (kt := WaC K a0 A S ++ kc) (evr_prop (k1 := []) [] (ev_var rfl) .v ⟨_, rfl, S, rfl, by omega, by omega, hn, rfl, rfl⟩ (fun o k ⟨n, o2, d, e, _⟩ => ⟨_, e⟩)) hkd (fr rfl) ?th) fun w k h => ?fz) fun _ _ z => z) ?_
  case th =>
    rintro w k ⟨d', k3, ⟨n, o, d2, e1, e2⟩, e3, e4⟩
    cases e1
    refine ⟨⟨_, e3, rfl⟩, fun q hq => ?_⟩
    rw [e4, e2, List.append_nil] at hq
    exact net_ndI q hq
  case fz =>
    obtain ⟨k0, ⟨d', k3, ⟨n, o, d2, e1, e2⟩, e3, e4⟩, e5⟩ := h
    cases e1
    exact ⟨.adr n, NetD K S.ps S.es, NetC K n o d2 S.ps S.es, WaC K a0 A S ++ kc, e3, by rw [e5, e4, e2, List.append_nil]; exact List.perm_append_comm, net_kd, FzT.adr (frz_net fun _ z => z), rfl, rfl⟩
  have told : ∀ {ro : Ro} {E' : XK}, ro[0]? = some (some (.val (.adr a0))) → EvD K (tMeth (He.ga K "Watch") "told" (spC K (ct_Watch_told K)) [] E' (tVar 0) tNil) ro (WaC K a0 A S ++ kc) (.val (.lst S.dl)) (WaC K a0 A S ++ kc) := fun h => by
    refine EvR.d (k1 := WaC K a0 A S ++ kc) (P := fun w k => w = .val (.lst S.dl) ∧ k = WaC K a0 A S ++ kc) (EvR.frzU (EvR.thaw (k1 := []) (kt := WaC K a0 A S ++ kc) (evr_meth (k1 := []) (k2 := []) [] (ev_var (i := 0) (w := .val (WaD K S)) ?v) .v rfl ea_nil ⟨_, rfl, S, rfl, rfl, rfl⟩ (fun o k ⟨c, e, _⟩ => ⟨_, e⟩)) hkd (fr h) ?th) fun w k h => ?fz) fun _ _ z => z
    case v =>
      obtain ⟨hi, _⟩ := List.getElem?_eq_some_iff.mp h
      rw [List.getElem?_set]
      simp [hi]
    case th =>
      rintro w k ⟨d', k3, ⟨c, e1, e2⟩, e3, e4⟩
      cases e1
      refine ⟨⟨_, e3, rfl⟩, fun q hq => ?_⟩
      rw [e4, e2, List.append_nil] at hq
      rw [List.mem_singleton.mp hq]
      exact hti
    case fz =>
      obtain ⟨k0, ⟨d', k3, ⟨c, e1, e2⟩, e3, e4⟩, e5⟩ := h
      cases e1
      exact ⟨.adr c, .lst S.dl, [(c, .lst S.dl)], WaC K a0 A S ++ kc, e3, by rw [e5, e4, e2, List.append_nil]; exact List.perm_append_comm, fun p hp => (by rw [List.mem_singleton.mp hp]; rfl), FzT.adr (frz_l List.mem_cons_self (FzL.same _)), rfl, rfl⟩
  refine q_when (b := false) (et_or0 ((et_test (ev_ne (d := .tup (stD S.ps)) (e := .tup (stD S.ps)) (ev_prop (k1 := []) (WaC K a0 A S ++ kc) (ev_var rfl) .v ⟨_, rfl, S.ps, S.es, ⟨.inl rfl⟩, rfl⟩ fun _ _ z => z) (ev_cb (ea1 (ev_ixV (d := .lst (stD S.ps)) (ev_var rfl) ev_int .vl (atI_nat (j := 0) rfl))) (rc_tupL .vl (sqf_stD _ _))) .v .v (pl_stD _ 60) (pl_stD _ 60))).to (by rw [eqD_refl 61 (.tup (stD S.ps)) (pl_stD _ 60)]; rfl)) ((et_test (ev_ne (d := .tup (stD (lnN S.es))) (e := .tup (stD (lnN S.es))) (ev_prop (k1 := []) (WaC K a0 A S ++ kc) (ev_var rfl) .v ⟨_, rfl, S.ps, S.es, rfl, by omega, rfl, rfl⟩ fun _ _ z => z) (ev_cb (ea1 (ev_callP (ea1 (ev_var rfl)) ⟨_, rfl, S.ps, S.es, rfl, by omega, rfl, rfl⟩)) (rc_tupL .vl (sqf_stD _ _))) .v .v (pl_stD _ 60) (pl_stD _ 60))).to (by rw [eqD_refl 61 (.tup (stD (lnN S.es))) (pl_stD _ 60)]; rfl))) (fun z => by cases z) (fun _ => ?_)
  have none1 : S.es.filter (fun _ => false) = [] := List.filter_eq_nil_iff.mpr fun _ _ z => by cases z
  refine q_when (b := false) ((et_test (ev_ne (d := .lst []) (e := .lst []) ((evn_filt (xs := S.es) (g := fun r => W.val (rwL r)) (f := fun r => rwL r) (p := fun _ => false) (ei_map (ts := S.es) (f := rwL) (ev_ixV (ev_var rfl) ev_int .vl (atI_nat (j := 1) rfl))) (by decide) (by omega) ⟨trivial, fun _ => trivial⟩ (fun r hr => (et_test (ev_ne (d := .tup [.str r.2.1, .str r.2.2]) (e := .tup [.str r.2.1, .str r.2.2]) (ev_tup (ds := [.str r.2.1, .str r.2.2]) (ea2 (ev_methA (k2 := []) (k3 := []) (d := .str r.2.1) (WaC K a0 A S ++ kc) (ev_var rfl) .v rfl (ea1 (ev_ixV (d := .str r.1) (ev_var rfl) ev_int .vt (atI_nat (j := 0) rfl))) ⟨_, _, rfl, S.ps, S.es, r.1, ⟨.inl rfl⟩, rfl, hn, .inl ⟨r, hr, rfl, rfl⟩⟩) (ev_methA (k2 := []) (k3 := []) (d := .str r.2.2) (WaC K a0 A S ++ kc) (ev_var rfl) .v rfl (ea1 (ev_ixV (d := .str r.1) (ev_var rfl) ev_int .vt (atI_nat (j := 0) rfl))) ⟨_, _, rfl, S.ps, S.es, r.1, ⟨.inl rfl⟩, rfl, hn, .inl ⟨r, hr, rfl, rfl⟩⟩)) (show 2 ≤ 100000 by decide)) (ev_slT (ds := [.str r.1, .str r.2.1, .str r.2.2]) (ev_var rfl) (eo_some ev_int) eo_none) .v .v rfl rfl)).to (by rw [eqD_refl 61 _ rfl]; rfl)) (fun r hr z => by cases z)).lst.to (by rw [none1]; rfl)) (evn_lst (ds := []) ea_nil (by decide)).lst .v .v rfl rfl)).to (by rfl)) (fun z => by cases z) (fun _ => ?_)
  have pd : pl 61 (.lst S.dl) = true := hpd
  refine g_ret hR (ev_andV1 ((ev_eq (d := .tup (stD S.gs)) (e := .tup (stD S.gs)) (EvD.thaw (k1 := []) (k2 := []) (ro' := _) (ev_prop (k1 := []) [] (ev_var rfl) .v ⟨_, rfl, S, rfl, rfl, rfl⟩ fun _ _ z => z) hkd (fr rfl) (show tI (.tup (stD S.gs)) = true from tIL_stD _) (fun _ z => by cases z)) ((ev_callP (ea2 (ev_var rfl) (ev_var rfl)) ⟨_, _, rfl, S.ps, S.es, ws, false, rfl, .vl, by omega, rfl, rfl⟩).to (by rw [hg])) .v .v (pl_stD _ 60) (pl_stD _ 60)).to (by rw [eqD_refl 61 (.tup (stD S.gs)) (pl_stD _ 60)])) ((ev_eq (d := .lst S.dl) (e := .lst S.dl) (told rfl) (ev_var rfl) .v hpk pd pd).to (by rw [eqD_refl 61 (.lst S.dl) pd]))) ⟨rfl, rfl⟩
end
def ct_law_added (K : PySem.W.Frag) : Ct := Ct2 fun s b ka out => ∃ w A S ws c ds, s = .val (.adr w) ∧ b = .val (.adr c) ∧ Liv S ws ∧ ROk S ds ∧ S.ps.length ≤ 1000 ∧ S.dl.length + ds.length ≤ 1000 ∧ S.al.length + ds.length ≤ 1000 ∧ S.pt = [] ∧ ka = WaC K w A S ++ [(c, .lst ds)] ∧ out = fun o k => ∃ A', o = .ret (.tup [.adr w, tolO (runS 0 S ds).2]) ∧ k = WaC K w A' (if (runS 0 S ds).2.isSome then S else (runS 0 S ds).1) ++ [(c, .lst ds)]
section
variable {P : Program} {w : World} {K : PySem.W.Frag} {mg : Str → Option Value} {base : Heap}
theorem ok_law_added (T : Tx K mg) (F_Watch___iadd : Fn P w K mg base 12 (He.ma K (He.ga K "Watch") "__iadd__") ["self", "deeds"] (ct_Watch___iadd K)) : Fn P w K mg base 14 (He.ga K "_law_added") ["_law_watch", "_law_deeds"] (ct_law_added K) := by
  obtain ⟨fd, F⟩ := T.d_law_added
  refine fn_ok F sc_law_added (fun _ _ _ _ _ _ us hl => match us, hl with | [_, _], _ => rfl) ct2_len (fun cdv A outer s H E hr => ⟨_, (pss_cons (ps_tryC (tb := fun W => (tAugAt 0 (tVar 1) (fun sg => ipOwnB (He.ga K "Watch") (spC K (ct_Watch___iadd K)) (WE W sg)))) (l := [(.ref (He.ga K "BadDeed"), (some 2), fun a cls d => (tRet (tTup (tCons (tVar 0) (tCons (tTup (tCons (tC (.str "BadDeed")) (tCons (tXf a cls d (He.ga K "BadDeed") "place" (tVar 2)) tNil))) tNil))))), (.ref (He.ga K "BadName"), (some 2), fun a cls d => (tRet (tTup (tCons (tVar 0) (tCons (tTup (tCons (tC (.str "BadName")) (tCons (tXf a cls d (He.ga K "BadName") "name" (tVar 2)) tNil))) tNil))))), (.ref (He.ga K "NameTaken"), (some 2), fun a cls d => (tRet (tTup (tCons (tVar 0) (tCons (tTup (tCons (tC (.str "NameTaken")) (tCons (tXf a cls d (He.ga K "NameTaken") "name" (tVar 2)) tNil))) tNil))))), (.ref (He.ga K "NoPost"), (some 2), fun a cls d => (tRet (tTup (tCons (tVar 0) (tCons (tTup (tCons (tC (.str "NoPost")) (tCons (tXf a cls d (He.ga K "NoPost") "name" (tVar 2)) tNil))) tNil))))), (.ref (He.ga K "NoLane"), (some 2), fun a cls d => (tRet (tTup (tCons (tVar 0) (tCons (tTup (tCons (tC (.str "NoLane")) (tCons (tXf a cls d (He.ga K "NoLane") "name" (tVar 2)) tNil))) tNil))))), (.ref (He.ga K "StillWanted"), (some 2), fun a cls d => (tRet (tTup (tCons (tVar 0) (tCons (tTup (tCons (tC (.str "StillWanted")) (tCons (tXf a cls d (He.ga K "StillWanted") "name" (tVar 2)) tNil))) tNil))))), (.ref (He.ga K "NotWanted"), (some 2), fun a cls d => (tRet (tTup (tCons (tVar 0) (tCons (tTup (tCons (tC (.str "NotWanted")) (tCons (tXf a cls d (He.ga K "NotWanted") "name" (tVar 2)) tNil))) tNil)))))]) rfl rfl (takes_of rfl rfl rfl rfl)
      (fun W pn xe tk hp => (pss_one (ps_augS (i := 0) sc_law_added.nd rfl rfl T.io_Watch_Add (F_Watch___iadd.up (by decide)) hr (passAt tk) (pv 1))))
      (fun D base => (Deals.named (i := 2) rfl sc_law_added.nd ⟨rfl, by decide, .inl T.g_BadDeed.1⟩ rfl rfl
      (fun a oe cls d pn hz hf => (pss_one (ps_ret (pe_tup (pa_cons (pv 0) (pa_cons (pe_tup (pa_cons pe_str (pa_cons (pe_xf T.xc_BadDeed.xf T.xn_BadDeed_place hz hf (pv 2)) pa_nil))) pa_nil)))))) (Deals.named (i := 2) rfl sc_law_added.nd ⟨rfl, by decide, .inl T.g_BadName.1⟩ rfl rfl
      (fun a oe cls d pn hz hf => (pss_one (ps_ret (pe_tup (pa_cons (pv 0) (pa_cons (pe_tup (pa_cons pe_str (pa_cons (pe_xf T.xc_BadName.xf T.xn_BadName_name hz hf (pv 2)) pa_nil))) pa_nil)))))) (Deals.named (i := 2) rfl sc_law_added.nd ⟨rfl, by decide, .inl T.g_NameTaken.1⟩ rfl rfl
      (fun a oe cls d pn hz hf => (pss_one (ps_ret (pe_tup (pa_cons (pv 0) (pa_cons (pe_tup (pa_cons pe_str (pa_cons (pe_xf T.xc_NameTaken.xf T.xn_NameTaken_name hz hf (pv 2)) pa_nil))) pa_nil)))))) (Deals.named (i := 2) rfl sc_law_added.nd ⟨rfl, by decide, .inl T.g_NoPost.1⟩ rfl rfl
      (fun a oe cls d pn hz hf => (pss_one (ps_ret (pe_tup (pa_cons (pv 0) (pa_cons (pe_tup (pa_cons pe_str (pa_cons (pe_xf T.xc_NoPost.xf T.xn_NoPost_name hz hf (pv 2)) pa_nil))) pa_nil)))))) (Deals.named (i := 2) rfl sc_law_added.nd ⟨rfl, by decide, .inl T.g_NoLane.1⟩ rfl rfl
      (fun a oe cls d pn hz hf => (pss_one (ps_ret (pe_tup (pa_cons (pv 0) (pa_cons (pe_tup (pa_cons pe_str (pa_cons (pe_xf T.xc_NoLane.xf T.xn_NoLane_name hz hf (pv 2)) pa_nil))) pa_nil)))))) (Deals.named (i := 2) rfl sc_law_added.nd ⟨rfl, by decide, .inl T.g_StillWanted.1⟩ rfl rfl
      (fun a oe cls d pn hz hf => (pss_one (ps_ret (pe_tup (pa_cons (pv 0) (pa_cons (pe_tup (pa_cons pe_str (pa_cons (pe_xf T.xc_StillWanted.xf T.xn_StillWanted_name hz hf (pv 2)) pa_nil))) pa_nil)))))) (Deals.named (i := 2) rfl sc_law_added.nd ⟨rfl, by decide, .inl T.g_NotWanted.1⟩ rfl rfl
      (fun a oe cls d pn hz hf => (pss_one (ps_ret (pe_tup (pa_cons (pv 0) (pa_cons (pe_tup (pa_cons pe_str (pa_cons (pe_xf T.xc_NotWanted.xf T.xn_NotWanted_name hz hf (pv 2)) pa_nil))) pa_nil)))))) base)))))))))
      (pss_one (ps_ret (pe_tup (pa_cons (pv 0) (pa_cons pe_non pa_nil)))))), fun ws ka out B F0 Q hC hR hX => ?_⟩)
  obtain ⟨s, b, rfl, w, A, S, ws, c, ds, rfl, rfl, hL, hO, hps, hdl, hal, hpt, rfl, rfl⟩ := hC
  have con : ct_Watch___iadd K [.val (.adr w), .val (.adr c)] (WaC K w A S ++ [(c, .lst ds)]) _ := ⟨_, _, rfl, w, A, S, ws, c, ds, rfl, rfl, hL, hO, hps, hdl, hal, hpt, rfl, rfl⟩
  cases he : (runS 0 S ds).2 with
  | none =>
    rw [he] at con hR
    refine q_meet (fun ro k => ∃ A', ro = [some (.val (.adr w)), some (.val (.adr c)), none] ∧ k = WaC K w A' (runS 0 S ds).1 ++ [(c, .lst ds)]) (fun nx hnx => ?_) (fun ro2 ka2 ⟨A', e1, e2⟩ => ?_)
    · exact g_augO (k2 := WaC K w A S ++ [(c, .lst ds)]) [] rfl (by rw [List.append_nil]; exact ev_var rfl) (.c 7 rfl) con (fun o k ⟨A', h, _⟩ => ⟨_, h⟩) (fun d k3 ⟨A', e1, e2⟩ => by
        cases e1
        rw [List.append_nil]
        exact hnx _ _ ⟨A', rfl, e2⟩)
    · subst e1 e2
      exact g_ret hR (ev_tup (ds := [.adr w, .non]) (ea2 (ev_var rfl) ev_non) (show 2 ≤ 100000 by decide)) ⟨A', rfl, rfl⟩
  | some q =>
    obtain ⟨C, f, x⟩ := q
    rw [he] at con hR
    obtain ⟨q, S', d, hq⟩ := runS_er ds 0 S _ he
    rcases doE_clx hq with ⟨rfl, rfl⟩ | ⟨rfl, h⟩
    · exact g_augX (k2 := WaC K w A S ++ [(c, .lst ds)]) (k3 := WaC K w A S ++ [(c, .lst ds)]) (gs := [("place", x)]) [] rfl (by rw [List.append_nil]; exact ev_var rfl) (.c 7 rfl) con (.here T.ex_BadDeed_BadDeed) fun q dx => g_ret hR ((ev_tup (ds := [.adr w, .tup [.str "BadDeed", x]]) (ea2 (ev_var rfl) (ev_tup (ds := [.str "BadDeed", x]) (ea2 ev_str (ev_xf (j := 9) (ev_var rfl) rfl lk1)) (show 2 ≤ 100000 by decide))) (show 2 ≤ 100000 by decide)).less (List.sublist_append_left _ _)) ⟨A, rfl, rfl⟩
    rcases h with rfl | rfl | rfl | rfl | rfl | rfl
    · exact g_augX (k2 := WaC K w A S ++ [(c, .lst ds)]) (k3 := WaC K w A S ++ [(c, .lst ds)]) (gs := [("name", x)]) [] rfl (by rw [List.append_nil]; exact ev_var rfl) (.c 7 rfl) con (.next T.ex_BadName_BadDeed (.here T.ex_BadName_BadName)) fun q dx => g_ret hR ((ev_tup (ds := [.adr w, .tup [.str "BadName", x]]) (ea2 (ev_var rfl) (ev_tup (ds := [.str "BadName", x]) (ea2 ev_str (ev_xf (j := 9) (ev_var rfl) rfl lk1)) (show 2 ≤ 100000 by decide))) (show 2 ≤ 100000 by decide)).less (List.sublist_append_left _ _)) ⟨A, rfl, rfl⟩
    · exact g_augX (k2 := WaC K w A S ++ [(c, .lst ds)]) (k3 := WaC K w A S ++ [(c, .lst ds)]) (gs := [("name", x)]) [] rfl (by rw [List.append_nil]; exact ev_var rfl) (.c 7 rfl) con (.next T.ex_NameTaken_BadDeed (.next T.ex_NameTaken_BadName (.here T.ex_NameTaken_NameTaken))) fun q dx => g_ret hR ((ev_tup (ds := [.adr w, .tup [.str "NameTaken", x]]) (ea2 (ev_var rfl) (ev_tup (ds := [.str "NameTaken", x]) (ea2 ev_str (ev_xf (j := 9) (ev_var rfl) rfl lk1)) (show 2 ≤ 100000 by decide))) (show 2 ≤ 100000 by decide)).less (List.sublist_append_left _ _)) ⟨A, rfl, rfl⟩
    · exact g_augX (k2 := WaC K w A S ++ [(c, .lst ds)]) (k3 := WaC K w A S ++ [(c, .lst ds)]) (gs := [("name", x)]) [] rfl (by rw [List.append_nil]; exact ev_var rfl) (.c 7 rfl) con (.next T.ex_NoPost_BadDeed (.next T.ex_NoPost_BadName (.next T.ex_NoPost_NameTaken (.here T.ex_NoPost_NoPost)))) fun q dx => g_ret hR ((ev_tup (ds := [.adr w, .tup [.str "NoPost", x]]) (ea2 (ev_var rfl) (ev_tup (ds := [.str "NoPost", x]) (ea2 ev_str (ev_xf (j := 9) (ev_var rfl) rfl lk1)) (show 2 ≤ 100000 by decide))) (show 2 ≤ 100000 by decide)).less (List.sublist_append_left _ _)) ⟨A, rfl, rfl⟩
    · exact g_augX (k2 := WaC K w A S ++ [(c, .lst ds)]) (k3 := WaC K w A S ++ [(c, .lst ds)]) (gs := [("name", x)]) [] rfl (by rw [List.append_nil]; exact ev_var rfl) (.c 7 rfl) con (.next T.ex_NoLane_BadDeed (.next T.ex_NoLane_BadName (.next T.ex_NoLane_NameTaken (.next T.ex_NoLane_NoPost (.here T.ex_NoLane_NoLane))))) fun q dx => g_ret hR ((ev_tup (ds := [.adr w, .tup [.str "NoLane", x]]) (ea2 (ev_var rfl) (ev_tup (ds := [.str "NoLane", x]) (ea2 ev_str (ev_xf (j := 9) (ev_var rfl) rfl lk1)) (show 2 ≤ 100000 by decide))) (show 2 ≤ 100000 by decide)).less (List.sublist_append_left _ _)) ⟨A, rfl, rfl⟩
    · exact g_augX (k2 := WaC K w A S ++ [(c, .lst ds)]) (k3 := WaC K w A S ++ [(c, .lst ds)]) (gs := [("name", x)]) [] rfl (by rw [List.append_nil]; exact ev_var rfl) (.c 7 rfl) con (.next T.ex_StillWanted_BadDeed (.next T.ex_StillWanted_BadName (.next T.ex_StillWanted_NameTaken (.next T.ex_StillWanted_NoPost (.next T.ex_StillWanted_NoLane (.here T.ex_StillWanted_StillWanted)))))) fun q dx => g_ret hR ((ev_tup (ds := [.adr w, .tup [.str "StillWanted", x]]) (ea2 (ev_var rfl) (ev_tup (ds := [.str "StillWanted", x]) (ea2 ev_str (ev_xf (j := 9) (ev_var rfl) rfl lk1)) (show 2 ≤ 100000 by decide))) (show 2 ≤ 100000 by decide)).less (List.sublist_append_left _ _)) ⟨A, rfl, rfl⟩
    · exact g_augX (k2 := WaC K w A S ++ [(c, .lst ds)]) (k3 := WaC K w A S ++ [(c, .lst ds)]) (gs := [("name", x)]) [] rfl (by rw [List.append_nil]; exact ev_var rfl) (.c 7 rfl) con (.next T.ex_NotWanted_BadDeed (.next T.ex_NotWanted_BadName (.next T.ex_NotWanted_NameTaken (.next T.ex_NotWanted_NoPost (.next T.ex_NotWanted_NoLane (.next T.ex_NotWanted_StillWanted (.here T.ex_NotWanted_NotWanted))))))) fun q dx => g_ret hR ((ev_tup (ds := [.adr w, .tup [.str "NotWanted", x]]) (ea2 (ev_var rfl) (ev_tup (ds := [.str "NotWanted", x]) (ea2 ev_str (ev_xf (j := 9) (ev_var rfl) rfl lk1)) (show 2 ≤ 100000 by decide))) (show 2 ≤ 100000 by decide)).less (List.sublist_append_left _ _)) ⟨A, rfl, rfl⟩
end
def ct_law_list (K : PySem.W.Frag) : Ct := Ct3 fun s b e ka out => ∃ a p n S ws, s = .val (.adr a) ∧ b = .val (PtD S.ps S.es) ∧ e = .val (.lst (stD ws)) ∧ Liv S ws ∧ PsOk S.ps ∧ p.Ok n ∧ 0 ≤ n ∧ n ≤ 500000 ∧ ka = [(a, .lst (Pl.ds p))] ∧ out = fun o k => ∃ c ds p', o = .ret (.adr c) ∧ k = [(a, .lst (Pl.ds p')), (c, .lst ds)] ∧ ROk S ds ∧ ds.length ≤ 7 ∧ (∀ d ∈ ds, pl 60 d = true) ∧ p'.Ok (n + 300)
section
variable {P : Program} {w : World} {K : PySem.W.Frag} {mg : Str → Option Value} {base : Heap}
theorem ok_law_list (T : Tx K mg) (F_law_take : Fn P w K mg base 4 (He.ga K "_law_take") ["_law_pool_here", "_law_many_here"] (ct_law_take K)) (F_law_deed : Fn P w K mg base 8 (He.ga K "_law_deed") ["_law_pool_here", "_law_parts", "_law_wanted"] (ct_law_deed K)) (F_law_due : Fn P w K mg base 6 (He.ga K "_law_due") ["_law_parts", "_law_wanted", "_law_deed_here", "_law_place"] (ct_law_due K)) (F_law_after : Fn P w K mg base 6 (He.ga K "_law_after") ["_law_parts", "_law_wanted", "_law_deed_here"] (ct_law_after K)) : Fn P w K mg base 10 (He.ga K "_law_list") ["_law_pool_here", "_law_parts", "_law_wanted"] (ct_law_list K) := by
  obtain ⟨fd, F⟩ := T.d_law_list
  refine fn_ok F sc_law_list (fun _ _ _ _ _ _ us hl => match us, hl with | [_, _, _], _ => rfl) ct3_len (fun cdv A outer s H E hr => ⟨_, (pss_cons (ps_set (i := 3) sc_law_list.nd rfl (by first | exact Or.inl rfl | exact Or.inr rfl) (pe_lst pa_nil))
      (pss_cons (ps_set (i := 4) sc_law_list.nd rfl (by first | exact Or.inl rfl | exact Or.inr rfl) (pe_cmpR (op_eqP (by have := (hr).units; exact this)) (pe_call (F_law_take.up (by decide)).ok hr rfl T.g_law_take.1 T.g_law_take.2 (F_law_take.up (by decide)).bn .nil (pass_own rfl rfl rfl rfl) (pa_cons (pv 0) (pa_cons pe_int pa_nil))) pe_int (nomark _)))
      (pss_cons (ps_for (passes_of rfl) rfl (pi_range1 rfl T.n_range (pa_cons (pe_call (F_law_take.up (by decide)).ok hr rfl T.g_law_take.1 T.g_law_take.2 (F_law_take.up (by decide)).bn .nil (pass_own rfl rfl rfl rfl) (pa_cons (pv 0) (pa_cons pe_int pa_nil))) pa_nil)) (pg_name (i := 5) sc_law_list.nd rfl (by first | exact Or.inl rfl | exact Or.inr rfl)) (pss_cons (ps_set (i := 6) sc_law_list.nd rfl (by first | exact Or.inl rfl | exact Or.inr rfl) (pe_call (F_law_deed.up (by decide)).ok hr rfl T.g_law_deed.1 T.g_law_deed.2 (F_law_deed.up (by decide)).bn .nil (pass_own rfl rfl rfl rfl) (pa_cons (pv 0) (pa_cons (pv 1) (pa_cons (pv 2) pa_nil)))))
      (pss_cons (ps_set (i := 7) sc_law_list.nd rfl (by first | exact Or.inl rfl | exact Or.inr rfl) (pe_call (F_law_due.up (by decide)).ok hr rfl T.g_law_due.1 T.g_law_due.2 (F_law_due.up (by decide)).bn .nil (pass_own rfl rfl rfl rfl) (pa_cons (pv 1) (pa_cons (pv 2) (pa_cons (pv 6) (pa_cons pe_int pa_nil))))))
      (pss_cons (ps_if (pt_cmpR op_isN1 (pv 7) pe_non (nomark _))
      (pss_one (ps_asg (pe_call (F_law_after.up (by decide)).ok hr rfl T.g_law_after.1 T.g_law_after.2 (F_law_after.up (by decide)).bn .nil (pass_own rfl rfl rfl rfl) (pa_cons (pv 1) (pa_cons (pv 2) (pa_cons (pv 6) pa_nil)))) (pg_lst rfl (pgs_cons (pg_name (i := 1) sc_law_list.nd rfl (by first | exact Or.inl rfl | exact Or.inr rfl)) (pgs_cons (pg_name (i := 2) sc_law_list.nd rfl (by first | exact Or.inl rfl | exact Or.inr rfl)) pgs_nil)))))
      pss_nil)
      (pss_one (ps_if (PW.pt (pw_or (pt_cmpR op_isN1 (pv 7) pe_non (nomark _)) (pw_or1 (PW.pt (pw_and (pt_not (pt_val (pv 4))) (pw_and1 (pt_cmpR (op_eqP (by have := (hr).units; exact this)) (pe_call (F_law_take.up (by decide)).ok hr rfl T.g_law_take.1 T.g_law_take.2 (F_law_take.up (by decide)).bn .nil (pass_own rfl rfl rfl rfl) (pa_cons (pv 0) (pa_cons pe_int pa_nil))) pe_int (nomark _))))))))
      (pss_one (ps_expr (pe_bm PySem.F.plainAttrs_list PySem.F.slot_list_append PySem.F.type_list_append mt_append (pv 3) (pa_cons (pv 6) pa_nil))))
      pss_nil))))))
      (pss_one (ps_ret (pv 3)))))), fun ws ka out B F0 Q hC hR hX => ?_⟩)
  obtain ⟨s, b, e, rfl, a, p, n, S, ws, rfl, rfl, rfl, hL, hps, hp, hn0, hn, rfl, rfl⟩ := hC
  refine q_asgN (evn_lst (ds := []) ea_nil (by decide)) (fun c => ?_)
  have o1 := tk_ok hp (m := 2) (by decide)
  refine q_asg (ev_eqI (ev_take (kr := [(c, .lst [])]) (ev_var rfl) ev_int (hp.up (by omega)) (by decide) (by decide)) ev_int) ?_
  generalize ((tk p 2).1 == 0) = bs
  generalize (tk p 2).2 = p1 at *
  have t2 := tk_lt p1 (m := 8) (by decide)
  have o2 := tk_ok o1 (m := 8) (by decide)
  refine q_forn (ei_range1 (ea1 (ev_take (kr := [(c, .lst [])]) (ev_var rfl) ev_int (o1.up (by omega)) (by decide) (by decide))) (by omega) (by omega)) (fun i ro ka => ∃ S' ws' ds p', ∃ (v5 v6 v7 : Option W), ro = [some (.val (.adr a)), some (.val (PtD S'.ps S'.es)), some (.val (.lst (stD ws'))), some (.val (.adr c)), some (.val (.bl bs)), v5, v6, v7] ∧ ka = [(a, .lst (Pl.ds p')), (c, .lst ds)] ∧ Liv S' ws' ∧ S'.ps = S.ps ∧ ROk S ds ∧ ((runS 0 S ds).2 = none → runS 0 S ds = (S', none)) ∧ ds.length ≤ i ∧ (∀ d ∈ ds, pl 60 d = true) ∧ p'.Ok (n + 2 + 30 * (i : Int))) ⟨S, ws, [], _, _, _, _, rfl, rfl, hL, rfl, trivial, fun _ => rfl, Nat.le_refl _, (fun _ z => by cases z), o2.up (by omega)⟩ (fun i ro ka _ => trivial) (fun i w ro2 ka2 ta' hw h => ?_) (fun ro2 ka2 ta' h _ => ?_)
  rotate_left
  · obtain ⟨S', ws', ds, p', v5, v6, v7, e1, e2, h1, h2, h3, h4, h5, h6, h7⟩ := h
    subst e1 e2
    rw [List.length_map, List.length_range] at h5 h7
    exact g_ret hR (ev_var rfl) ⟨c, ds, p', rfl, rfl, h3, by omega, h6, h7.up (by omega)⟩
  obtain ⟨S', ws', ds, p', v5, v6, v7, e1, e2, h1, h2, h3, h4, h5, h6, h7⟩ := h
  subst e1 e2
  have hi : i < 8 := by
    have := (List.getElem?_eq_some_iff.mp hw).1
    rw [List.length_map, List.length_range] at this
    omega
  clear hw
  have hel : S'.es.length ≤ 14 := h1.row.el
  have hwl : ws'.length ≤ 14 := by
    have : ws'.length ≤ (lnN S'.es).length := nd_sub_len h1.row.wd h1.row.wi
    rw [lnN_len] at this
    omega
  refine q_call (k1 := [(a, .lst (Pl.ds p'))]) [(c, .lst ds)] (ea3 (ev_var rfl) (ev_var rfl) (ev_var rfl)) ⟨_, _, _, rfl, a, p', n + 2 + 30 * (i : Int), S'.ps, S'.es, ws', rfl, rfl, rfl, rfl, h7, by omega, by omega, by rw [h2]; exact hps.ne, by rw [h2]; exact hps.pl, by omega, by omega, by rw [h2]; exact hps.nm, h1.row.nm, fun s hs => h1.row.nm s (h1.row.wi s hs), rfl⟩ (fun o k ⟨d, p', h, _⟩ => ⟨_, h⟩) ?_
  rintro d _ ⟨d', p2, e, rfl, hp2, hd1, hd2, hd3⟩
  cases e
  refine q_asg (w := .val (tolQ S' 0 d)) (ev_callP (ea_cons (ev_var rfl) (ea3 (ev_var rfl) (ev_var rfl) ev_int)) ⟨_, _, _, _, rfl, S', ws', d, 0, rfl, rfl, rfl, rfl, fun l hl => by rw [← h1.gs]; exact mem_gl.trans ⟨fun h => h.2, fun h => ⟨hl, h⟩⟩, hd1.1, hd2, by omega, rfl, rfl⟩) ?_
  have hROk : ROk S (ds ++ [d]) := ROk.snoc (p := 0) h3 hd3 hd1 fun hz => by rw [h4 hz]; exact hd2
  have hpl2 : ∀ x ∈ ds ++ [d], pl 60 x = true := fun x hx => (List.mem_append.mp hx).elim (h6 x) fun h => by rw [List.mem_singleton.mp h]; exact hd3
  have hlen : (ds ++ [d]).length ≤ i + 1 := by rw [List.length_append, List.length_singleton]; omega
  cases he : doE S' 0 d with
  | none =>
    have t0 : tolQ S' 0 d = .non := by unfold tolQ; rw [he]
    rw [t0]
    obtain ⟨st, ee⟩ := h1.step hd2 he
    refine q_when (b := true) ((et_test (ev_isN (d := .non) (ev_var rfl))).to rfl) (fun _ => ?_) (fun z => by cases z)
    refine g_asgT (ev_callP (ea3 (ev_var rfl) (ev_var rfl) (ev_var rfl)) ⟨_, _, _, rfl, S'.ps, S'.es, ws', d, rfl, rfl, rfl, deed_of he, by omega, by omega, rfl, rfl⟩) at_l2 ?_
    refine g_if (b := true) (et_or1 ((et_test (ev_isN (d := .non) (ev_var rfl))).to rfl)) (fun _ => ?_) (fun z => by cases z)
    refine g_app (a := c) (j0 := 1) (j := 1) (d := d) (ds := ds) (ev_var rfl) rfl (ev_var rfl) rfl (by omega) (g_jp ⟨doS S' d, aftW ws' d, ds ++ [d], p2, _, _, _, by rw [ee]; rfl, rfl, st, h2, hROk, fun hz => ?_, hlen, hpl2, hp2.up (by push_cast; omega)⟩)
    have sn := runS_snoc ds 0 S d
    by_cases h0 : (runS 0 S ds).2 = none
    · rw [sn.2 h0, h4 h0, runS_none (doE_at he)]
      rfl
    · rw [sn.1 h0] at hz
      exact absurd hz h0
  | some q =>
    have t0 : tolQ S' 0 d = tolO (some q) := by unfold tolQ; rw [he]; rfl
    rw [t0]
    have nn : isNonD (tolO (some q)) = false := rfl
    refine q_when (b := false) ((et_test (ev_isN (d := tolO (some q)) (ev_var rfl))).to nn) (fun z => by cases z) (fun _ => ?_)
    have o3 := tk_ok hp2 (m := 4) (by decide)
    refine g_ifR (R := fun cc k => ∃ p3 : Pl, k = [(a, .lst (Pl.ds p3)), (c, .lst ds)] ∧ p3.Ok (n + 2 + 30 * (i : Int) + 21)) ?test (fun k ⟨p3, e, hp3⟩ => ?_) (fun k ⟨p3, e, hp3⟩ => ?_)
    case test =>
      refine etR_or0 ((et_test (ev_isN (d := tolO (some q)) (ev_var rfl))).to nn) ?_
      exact etr_and (et_not (et_B (ev_var rfl))) (fun _ => ⟨p2, rfl, hp2.up (by omega)⟩) (fun _ => (et_test (ev_eqI (ev_take (kr := [(c, .lst ds)]) (ev_var rfl) ev_int (hp2.up (by omega)) (by decide) (by decide)) ev_int)).toTR ⟨_, rfl, o3.up (by omega)⟩)
    · subst e
      refine g_app (a := c) (j0 := 1) (j := 1) (d := d) (ds := ds) (ev_var rfl) rfl (ev_var rfl) rfl (by omega) (g_jp ⟨S', ws', ds ++ [d], p3, _, _, _, rfl, rfl, h1, h2, hROk, fun hz => ?_, hlen, hpl2, hp3.up (by push_cast; omega)⟩)
      have sn := runS_snoc ds 0 S d
      by_cases h0 : (runS 0 S ds).2 = none
      · rw [sn.2 h0, h4 h0] at hz
        cases hx : doE S' ((0 + ds.length : Nat) : Int) d with
        | some e => rw [runS_some hx] at hz; cases hz
        | none => rw [doE_at hx] at he; cases he
      · rw [sn.1 h0] at hz
        exact absurd hz h0
    · subst e
      exact g_next (g_jp ⟨S', ws', ds, p3, _, _, _, rfl, rfl, h1, h2, h3, h4, by omega, h6, hp3.up (by push_cast; omega)⟩)
end
def ct_law_all (K : PySem.W.Frag) : Ct := Ct3 fun a b e ka out => ∃ S ws c ds, a = .val (PtD S.ps S.es) ∧ b = .val (.lst (stD ws)) ∧ e = .val (.adr c) ∧ Liv S ws ∧ ROk S ds ∧ ds.length ≤ 1000 ∧ ka = [(c, .lst ds)] ∧ out = fun o k => ∃ ws', Liv (runS 0 S ds).1 ws' ∧ o = .ret (.tup [PtD (runS 0 S ds).1.ps (runS 0 S ds).1.es, .lst (stD ws'), tolO (runS 0 S ds).2]) ∧ k = [(c, .lst ds)]
section
variable {P : Program} {w : World} {K : PySem.W.Frag} {mg : Str → Option Value} {base : Heap}
theorem ok_law_all (T : Tx K mg) (F_law_due : Fn P w K mg base 6 (He.ga K "_law_due") ["_law_parts", "_law_wanted", "_law_deed_here", "_law_place"] (ct_law_due K)) (F_law_after : Fn P w K mg base 6 (He.ga K "_law_after") ["_law_parts", "_law_wanted", "_law_deed_here"] (ct_law_after K)) : Fn P w K mg base 8 (He.ga K "_law_all") ["_law_parts", "_law_wanted", "_law_deeds"] (ct_law_all K) := by
  obtain ⟨fd, F⟩ := T.d_law_all
  refine fn_ok F sc_law_all (fun _ _ _ _ _ _ us hl => match us, hl with | [_, _, _], _ => rfl) ct3_len (fun cdv A outer s H E hr => ⟨_, (pss_cons (ps_for (passes_of rfl) rfl (pi_enum rfl T.n_enumerate (pa_cons (pv 2) pa_nil)) (pg_tup rfl (pgs_cons (pg_name (i := 3) sc_law_all.nd rfl (by first | exact Or.inl rfl | exact Or.inr rfl)) (pgs_cons (pg_name (i := 4) sc_law_all.nd rfl (by first | exact Or.inl rfl | exact Or.inr rfl)) pgs_nil))) (pss_cons (ps_set (i := 5) sc_law_all.nd rfl (by first | exact Or.inl rfl | exact Or.inr rfl) (pe_call (F_law_due.up (by decide)).ok hr rfl T.g_law_due.1 T.g_law_due.2 (F_law_due.up (by decide)).bn .nil (pass_own rfl rfl rfl rfl) (pa_cons (pv 0) (pa_cons (pv 1) (pa_cons (pv 4) (pa_cons (pv 3) pa_nil))))))
      (pss_cons (ps_if (pt_cmpR op_notN1 (pv 5) pe_non (nomark _))
      (pss_one (ps_ret (pe_tup (pa_cons (pv 0) (pa_cons (pv 1) (pa_cons (pv 5) pa_nil))))))
      pss_nil)
      (pss_one (ps_asg (pe_call (F_law_after.up (by decide)).ok hr rfl T.g_law_after.1 T.g_law_after.2 (F_law_after.up (by decide)).bn .nil (pass_own rfl rfl rfl rfl) (pa_cons (pv 0) (pa_cons (pv 1) (pa_cons (pv 4) pa_nil)))) (pg_lst rfl (pgs_cons (pg_name (i := 0) sc_law_all.nd rfl (by first | exact Or.inl rfl | exact Or.inr rfl)) (pgs_cons (pg_name (i := 1) sc_law_all.nd rfl (by first | exact Or.inl rfl | exact Or.inr rfl)) pgs_nil))))))))
      (pss_one (ps_ret (pe_tup (pa_cons (pv 0) (pa_cons (pv 1) (pa_cons pe_non pa_nil))))))), fun ws ka out B F0 Q hC hR hX => ?_⟩)
  obtain ⟨a, b, e, rfl, S, ws, c, ds, rfl, rfl, rfl, hL, hO, hdl, rfl, rfl⟩ := hC
  refine q_forT (ei_enum (ds := ds) (ev_var rfl) (.ce 0 rfl)) (fun i ro ka => ∃ S' ws', ∃ (v3 v4 v5 : Option W), ro = [some (.val (PtD S'.ps S'.es)), some (.val (.lst (stD ws'))), some (.val (.adr c)), v3, v4, v5] ∧ ka = [(c, .lst ds)] ∧ Liv S' ws' ∧ ROk S' (ds.drop i) ∧ runS i S' (ds.drop i) = runS 0 S ds) ⟨S, ws, _, _, _, rfl, rfl, hL, hO, rfl⟩ (fun i ro ka ⟨S', ws', v3, v4, v5, _, e, _⟩ => by rw [e]; exact List.mem_cons_self) (fun i w ro2 ka2 ta' hw h => ?_) (fun ro2 ka2 ta' h _ => ?_)
  rotate_left
  · obtain ⟨S', ws', v3, v4, v5, e1, e2, h1, h2, h3⟩ := h
    subst e1 e2
    rw [List.length_map, List.length_range, List.drop_length] at h3
    have h3 : (S', none) = runS 0 S ds := h3
    rw [← h3] at hR
    exact g_ret hR (ev_tup (ds := [PtD S'.ps S'.es, .lst (stD ws'), .non]) (ea3 (ev_var rfl) (ev_var rfl) ev_non) (show 3 ≤ 100000 by decide)) ⟨ws', h1, rfl, rfl⟩
  obtain ⟨S', ws', v3, v4, v5, e1, e2, h1, h2, h3⟩ := h
  subst e1 e2
  rw [List.getElem?_map] at hw
  obtain ⟨i', hi', rfl⟩ := Option.map_eq_some_iff.mp hw
  obtain ⟨hi1, hi2⟩ := List.getElem?_eq_some_iff.mp hi'
  rw [List.getElem_range] at hi2
  subst hi2
  rw [List.length_range] at hi1
  have hgd : ds.getD i .non = ds[i] := by rw [List.getD_eq_getElem?_getD, List.getElem?_eq_getElem hi1]; rfl
  rw [hgd]
  rw [List.drop_eq_getElem_cons hi1] at h2 h3
  generalize ds[i] = d at *
  obtain ⟨hd1, _, hd2, hd3⟩ := h2
  have hel : S'.es.length ≤ 14 := h1.row.el
  have hwl : ws'.length ≤ 14 := by
    have : ws'.length ≤ (lnN S'.es).length := nd_sub_len h1.row.wd h1.row.wi
    rw [lnN_len] at this
    omega
  refine ⟨_, at_t2, ?_⟩
  refine q_asg (w := .val (tolQ S' (i : Int) d)) (ev_callP (ea_cons (ev_var rfl) (ea3 (ev_var rfl) (ev_var rfl) (ev_var rfl))) ⟨_, _, _, _, rfl, S', ws', d, (i : Int), rfl, rfl, rfl, rfl, fun l hl => by rw [← h1.gs]; exact mem_gl.trans ⟨fun h => h.2, fun h => ⟨hl, h⟩⟩, hd1.1, hd2, by omega, rfl, rfl⟩) ?_
  cases he : doE S' (i : Int) d with
  | some q =>
    have t0 : tolQ S' (i : Int) d = tolO (some q) := by unfold tolQ; rw [he]; rfl
    rw [t0]
    rw [runS_some he] at h3
    rw [← h3] at hR
    have nn : isNonD (tolO (some q)) = false := rfl
    refine q_when (b := true) ((et_test (ev_notN (d := tolO (some q)) (ev_var rfl))).to (by rw [nn]; rfl)) (fun _ => ?_) (fun z => by cases z)
    exact g_ret hR (ev_tup (ds := [PtD S'.ps S'.es, .lst (stD ws'), tolO (some q)]) (ea3 (ev_var rfl) (ev_var rfl) (ev_var rfl)) (show 3 ≤ 100000 by decide)) ⟨ws', h1, rfl, rfl⟩
  | none =>
    have t0 : tolQ S' (i : Int) d = .non := by unfold tolQ; rw [he]
    rw [t0]
    rw [runS_none he] at h3
    obtain ⟨st, ee⟩ := h1.step hd2 he
    refine q_when (b := false) ((et_test (ev_notN (d := .non) (ev_var rfl))).to rfl) (fun z => by cases z) (fun _ => ?_)
    refine g_asgT (ev_callP (ea3 (ev_var rfl) (ev_var rfl) (ev_var rfl)) ⟨_, _, _, rfl, S'.ps, S'.es, ws', d, rfl, rfl, rfl, deed_of he, by omega, by omega, rfl, rfl⟩) at_l2 (g_jp ⟨doS S' d, aftW ws' d, _, _, _, by rw [ee]; rfl, rfl, st, hd3 (doE_at he), h3⟩)
end
def ct_law_long (K : PySem.W.Frag) : Ct := Ct3 fun s b e ka out => ∃ a p n ws l, s = .val (.adr a) ∧ b = .val (.lst (stD ws)) ∧ e = .val (.str l) ∧ l.length ≤ 1000 ∧ ws.length ≤ 1000 ∧ p.Ok n ∧ 0 ≤ n ∧ n ≤ 500000 ∧ ka = [(a, .lst (Pl.ds p))] ∧ out = fun o k => ∃ c ds p', o = .ret (.adr c) ∧ k = [(a, .lst (Pl.ds p')), (c, .lst ds)] ∧ (∀ S, ROk S ds) ∧ ds.length ≤ 60 ∧ (∀ d ∈ ds, pl 60 d = true) ∧ p'.Ok (n + 300)
section
variable {P : Program} {w : World} {K : PySem.W.Frag} {mg : Str → Option Value} {base : Heap}
theorem ok_law_long (T : Tx K mg) (F_law_take : Fn P w K mg base 4 (He.ga K "_law_take") ["_law_pool_here", "_law_many_here"] (ct_law_take K)) : Fn P w K mg base 6 (He.ga K "_law_long") ["_law_pool_here", "_law_wanted", "_law_lane"] (ct_law_long K) := by
  obtain ⟨fd, F⟩ := T.d_law_long
  refine fn_ok F sc_law_long (fun _ _ _ _ _ _ us hl => match us, hl with | [_, _, _], _ => rfl) ct3_len (fun cdv A outer s H E hr => ⟨_, (pss_cons (ps_set (i := 3) sc_law_long.nd rfl (by first | exact Or.inl rfl | exact Or.inr rfl) (pe_ifExp (pt_cmpR op_inU (pv 2) (pv 1) (by with_unfolding_all rfl)) (pe_lst (pa_cons pe_str (pa_cons pe_str pa_nil))) (pe_lst (pa_cons pe_str (pa_cons pe_str pa_nil)))))
      (pss_cons (ps_setLc (i := 5) (te := (tTup (tCons (tOp (rIx K) (tVar 3) (tOp rModI (tVar 4) (tC (.int 2)))) (tCons (tVar 2) tNil)))) (tt := tYes) (own := [("_law_k", 4)]) rfl sc_law_long.nd rfl rfl rfl (pi_range1 rfl T.n_range (pa_cons (pe_op op_addU pe_int (pe_call (F_law_take.up (by decide)).ok hr rfl T.g_law_take.1 T.g_law_take.2 (F_law_take.up (by decide)).bn .nil (pass_own rfl rfl rfl rfl) (pa_cons (pv 0) (pa_cons pe_int pa_nil)))) pa_nil)) (blk_ok ["_law_pool_here", "_law_wanted", "_law_lane", "_law_words", "_law_k", "_law_deeds"] (defScope s_law_long) rfl rfl (by decide +kernel)) (fun _ _ _ _ _ => (pg_name (i := 4) sc_law_long.nd rfl (by first | exact Or.inl rfl | exact Or.inr rfl))) (fun _ _ _ _ _ => pts_nil) (fun _ _ _ _ _ => (pe_tup (pa_cons (pe_ix ix_seq (pv 3) (pe_op op_mod (pv 4) pe_int) fun _ _ => rfl) (pa_cons (pv 2) pa_nil)))))
      (pss_one (ps_ret (pe_op op_addU (pv 5) (pe_op op_mulU (pe_lst (pa_cons (pe_tup (pa_cons pe_str (pa_cons (pv 2) (pa_cons (pv 2) pa_nil)))) pa_nil)) (pe_call (F_law_take.up (by decide)).ok hr rfl T.g_law_take.1 T.g_law_take.2 (F_law_take.up (by decide)).bn .nil (pass_own rfl rfl rfl rfl) (pa_cons (pv 0) (pa_cons pe_int pa_nil))))))))), fun ws ka out B F0 Q hC hR hX => ?_⟩)
  obtain ⟨s, b, e, rfl, a, p, n, ws, l, rfl, rfl, rfl, hl, hws, hp, hn0, hn, rfl, rfl⟩ := hC
  have wd : ∃ w1 w2 : Str, ((w1 = "drop" ∧ w2 = "want") ∨ (w1 = "want" ∧ w2 = "drop")) ∧ (if l ∈ ws then (["drop", "want"] : List Str) else ["want", "drop"]) = [w1, w2] := by
    by_cases h : l ∈ ws
    · exact ⟨_, _, .inl ⟨rfl, rfl⟩, if_pos h⟩
    · exact ⟨_, _, .inr ⟨rfl, rfl⟩, if_neg h⟩
  obtain ⟨w1, w2, hw, ew⟩ := wd
  refine q_asg (k1 := [(a, .lst p.ds)]) (w := .val (.lst (stD [w1, w2]))) ?asg ?_
  case asg =>
    rw [← ew]
    by_cases h : l ∈ ws
    · rw [if_pos h]
      exact ev_ifT ((et_test (ev_inL (ev_var rfl) (ev_var rfl) .vl)).to (decide_eq_true h)) (evn_lst (ds := stD ["drop", "want"]) (ea2 ev_str ev_str) (show 2 ≤ 100000 by decide)).lst
    · rw [if_neg h]
      exact ev_ifF ((et_test (ev_inL (ev_var rfl) (ev_var rfl) .vl)).to (decide_eq_false h)) (evn_lst (ds := stD ["want", "drop"]) (ea2 ev_str ev_str) (show 2 ≤ 100000 by decide)).lst
  have t1 := tk_lt p (m := 47) (by decide)
  have o1 := tk_ok hp (m := 47) (by decide)
  have one : ∀ j : Nat, ∃ w : Str, (w = "drop" ∨ w = "want") ∧ atI (stD [w1, w2]) ((j : Int) % 2) = some (.str w) := fun j => by
    rcases (by omega : (j : Int) % 2 = 0 ∨ (j : Int) % 2 = 1) with h | h
    · rw [h]
      exact ⟨w1, by rcases hw with ⟨h, _⟩ | ⟨h, _⟩ <;> simp [h], rfl⟩
    · rw [h]
      exact ⟨w2, by rcases hw with ⟨_, h⟩ | ⟨_, h⟩ <;> simp [h], rfl⟩
  have go : ∀ w : Str, (w = "drop" ∨ w = "want") → DeedK (.tup (stD [w, l])) ∧ pl 60 (.tup (stD [w, l])) = true ∧ ∀ m, PutN m (.tup (stD [w, l])) := fun w h => ⟨dk_tup (fun s hs => by
      rcases List.mem_cons.mp hs with rfl | hs
      · rcases h with rfl | rfl <;> decide
      · rw [List.mem_singleton.mp hs]; exact hl) (show 2 ≤ 1000 by decide), pl_stD _ 59, fun m x y z e => by cases e⟩
  have wr : DeedK (.tup (stD ["take", l, l])) ∧ pl 60 (.tup (stD ["take", l, l])) = true ∧ ∀ m, PutN m (.tup (stD ["take", l, l])) := ⟨dk_tup (fun s hs => by
      rcases List.mem_cons.mp hs with rfl | hs
      · decide
      rcases List.mem_cons.mp hs with rfl | hs
      · exact hl
      · rw [List.mem_singleton.mp hs]; exact hl) (show 3 ≤ 1000 by decide), pl_stD _ 59, fun m x y z e => by cases e⟩
  refine q_asgNR (evr_lc (ei_range1 (ea1 (ev_addI ev_int (ev_take (kr := []) (ev_var rfl) ev_int (hp.up (by omega)) (by decide) (by decide)))) (by omega) (by omega)) (by decide) (by rw [List.length_map, List.length_range]; omega) (fun i acc k => acc.length = i ∧ k = [(a, .lst (tk p 47).2.ds)] ∧ ∀ d ∈ acc, DeedK d ∧ pl 60 d = true ∧ ∀ m, PutN m d) ⟨rfl, rfl, fun _ z => by cases z⟩ (fun _ _ _ _ => ⟨trivial, fun _ => trivial⟩) (fun i w acc k hw ⟨e0, e1, e2⟩ => ?lc)) (fun nd k c ⟨acc, e0, e1, e2, e3⟩ => ?_)
  case lc =>
    subst e1
    rw [List.getElem?_map] at hw
    obtain ⟨i', hi', rfl⟩ := Option.map_eq_some_iff.mp hw
    obtain ⟨w, h1, h2⟩ := one i'
    refine .inr ⟨_, _, .tup (stD [w, l]), et_yes, ev_tup (ds := stD [w, l]) (ea2 (ev_ixV (ev_var rfl) (ev_modI (ev_var rfl) ev_int (by decide)) .vl h2) (ev_var rfl)) (show 2 ≤ 100000 by decide), by rw [List.length_append, List.length_singleton, e0], rfl, fun d hd => ?_⟩
    rcases List.mem_append.mp hd with h | h
    · exact e2 d h
    · rw [List.mem_singleton.mp h]; exact go w h1
  subst e0 e2
  rw [List.length_map, List.length_range] at e1
  refine Gp.frz (i := 5) (j := 1) (ds := acc) rfl rfl (show Gp K B F0 _ _ _ [(a, .lst (tk p 47).2.ds)] from ?_)
  generalize (tk p 47).2 = p2 at *
  have t2 := tk_lt p2 (m := 2) (by decide)
  have o2 := tk_ok o1 (m := 2) (by decide)
  have rl : (List.replicate (tk p2 2).1.toNat [D.tup (stD ["take", l, l])]).flatten.length ≤ 1 ∧ ∀ d ∈ (List.replicate (tk p2 2).1.toNat [D.tup (stD ["take", l, l])]).flatten, DeedK d ∧ pl 60 d = true ∧ ∀ m, PutN m d := by
    rcases (by omega : (tk p2 2).1.toNat = 0 ∨ (tk p2 2).1.toNat = 1) with h | h
    · rw [h]
      exact ⟨Nat.zero_le _, fun _ z => by cases z⟩
    · rw [h]
      refine ⟨Nat.le_refl _, fun d hd => ?_⟩
      have hd : d ∈ [D.tup (stD ["take", l, l])] := by simpa using hd
      rw [List.mem_singleton.mp hd]
      exact wr
  generalize hrs : (List.replicate (tk p2 2).1.toNat [D.tup (stD ["take", l, l])]).flatten = rs at *
  refine g_retC hR (evn_op (ev_var rfl) (evn_opC (evn_lst (ds := [.tup (stD ["take", l, l])]) (ea1 (ev_tup (ds := stD ["take", l, l]) (ea3 ev_str (ev_var rfl) (ev_var rfl)) (show 3 ≤ 100000 by decide))) (show 1 ≤ 100000 by decide)) (k2 := [(a, .lst (tk p2 2).2.ds)]) (ev_take (kr := []) (ev_var rfl) ev_int (o1.up (by omega)) (by decide) (by decide)) (fun c2 => rvn_r (rvn_rep (j := 1) rfl t2.1 (by omega) (show 1 ≤ 1000 by decide)))).lst (rvn_cat (b1 := false) (b2 := false) .vl .vl (by rw [hrs]; omega))) (fun c3 => ⟨c3, acc ++ rs, (tk p2 2).2, rfl, by rw [hrs]; rfl, fun S => ROk.of fun d hd => (List.mem_append.mp hd).elim (e3 d) (rl.2 d), by rw [List.length_append]; omega, fun d hd => ((List.mem_append.mp hd).elim (e3 d) (rl.2 d)).2.1, o2.up (by omega)⟩)
end
theorem ev_netF {K : PySem.W.Frag} {ro : Ro} {ka kr : Cells} {te : TE} {ps : List Str} {es : List Ln} {P : W → Cells → Prop} (h : EvR K te ro ka P) (hP : ∀ w k, P w k → ∃ a o d, w = .val (.adr a) ∧ k = NetC K a o d ps es ++ kr) : EvD K te ro ka (.val (NetD K ps es)) kr :=
  EvR.frzN (k1 := kr) (EvR.rp (P2 := fun w k => ∃ a o d, w = .val (.adr a) ∧ k = kr ++ NetC K a o d ps es) h fun w k p => by
    obtain ⟨a, o, d, e1, e2⟩ := hP w k p
    exact ⟨_, ⟨a, o, d, e1, rfl⟩, by rw [e2]; exact List.perm_append_comm⟩) fun w k z => z
/-- a net built, told frozen -/
theorem ev_built {K : PySem.W.Frag} {ro : Ro} {te : TE} {E : XK} {ka k1 : Cells} {ps : List Str} {es : List Ln} (h : EvD K te ro ka (.val (PtD ps es)) k1) (ok : PtOk ps es) : EvD K (tCall (spC K (ct_law_built K)) [] E (tCons te tNil)) ro ka (.val (NetD K ps es)) k1 := by
  refine ev_netF (kr := k1) (evr_call (k1 := []) k1 (ea1 h) ⟨_, rfl, ps, es, rfl, ok, rfl, rfl⟩ (fun o k ⟨a, _, _, e, _⟩ => ⟨_, e⟩)) ?_
  rintro w k ⟨d, k3, ⟨a, o, d2, e1, e2⟩, e3, e4⟩
  cases e1
  exact ⟨a, o, d2, e3, by rw [e4, e2]⟩
def ct_law (K : PySem.W.Frag) : Ct := Ct1 fun a ka out => ∃ ns, Scr K a ns ∧ ka = [] ∧ out = Rt (.bl true) []
section
variable {P : Program} {w : World} {K : PySem.W.Frag} {mg : Str → Option Value} {base : Heap}
theorem ok_law {fd : FuncData} (T : Tx K mg) (F_Watch___init : FnE P w K mg base 8 (He.ma K (He.ga K "Watch") "__init__") ["self", "net", "wanted"] [.ref (He.dflAt ("Watch", some "__init__") 0 K)] (ct_Watch___init K)) (F_Watch_told : Fn P w K mg base 4 (He.ma K (He.ga K "Watch") "told") ["self"] (ct_Watch_told K)) (F_law_cell : Fn P w K mg base 4 (He.ga K "_law_cell") ["_law_script", "_law_k"] (ct_law_cell K)) (F_law_pool : Fn P w K mg base 4 (He.ga K "_law_pool") ["_law_cell_here"] (ct_law_pool K)) (F_law_strong_net : Fn P w K mg base 8 (He.ga K "_law_strong_net") ["_law_pool_here", "_law_most", "_law_lanes_here"] (ct_law_strong_net K)) (F_law_built : Fn P w K mg base 8 (He.ga K "_law_built") ["_law_parts"] (ct_law_built K)) (F_law_lanes : Fn P w K mg base 4 (He.ga K "_law_lanes") ["_law_parts"] (ct_law_lanes K)) (F_law_same : Fn P w K mg base 10 (He.ga K "_law_same") ["_law_watch", "_law_parts", "_law_wanted", "_law_deeds"] (ct_law_same K)) (F_law_added : Fn P w K mg base 14 (He.ga K "_law_added") ["_law_watch", "_law_deeds"] (ct_law_added K)) (F_law_list : Fn P w K mg base 10 (He.ga K "_law_list") ["_law_pool_here", "_law_parts", "_law_wanted"] (ct_law_list K)) (F_law_all : Fn P w K mg base 8 (He.ga K "_law_all") ["_law_parts", "_law_wanted", "_law_deeds"] (ct_law_all K)) (F_law_long : Fn P w K mg base 6 (He.ga K "_law_long") ["_law_pool_here", "_law_wanted", "_law_lane"] (ct_law_long K)) (F : FunD K "law" "law" (defArgs s_law) (defBody s_law) (defScope s_law) [] [] (He.ga K "law") fd) : FnOk P w K mg base (L2.CX P w) 16 (He.ga K "law") fd ["_law_script"] (spC K (ct_law K)) := by
  refine fn_okF F sc_law (fun _ _ _ _ _ _ us hl => match us, hl with | [_], _ => rfl) ct1_len (fun cdv A outer s H E hr => ⟨_, (pss_cons (ps_set (i := 1) sc_law.nd rfl (by first | exact Or.inl rfl | exact Or.inr rfl) (pe_call (F_law_pool.up (by decide)).ok hr rfl T.g_law_pool.1 T.g_law_pool.2 (F_law_pool.up (by decide)).bn .nil (pass_own rfl rfl rfl rfl) (pa_cons (pe_call (F_law_cell.up (by decide)).ok hr rfl T.g_law_cell.1 T.g_law_cell.2 (F_law_cell.up (by decide)).bn .nil (pass_own rfl rfl rfl rfl) (pa_cons (pv 0) (pa_cons pe_int pa_nil))) pa_nil)))
      (pss_cons (ps_set (i := 2) sc_law.nd rfl (by first | exact Or.inl rfl | exact Or.inr rfl) (pe_call (F_law_strong_net.up (by decide)).ok hr rfl T.g_law_strong_net.1 T.g_law_strong_net.2 (F_law_strong_net.up (by decide)).bn .nil (pass_own rfl rfl rfl rfl) (pa_cons (pv 1) (pa_cons pe_int (pa_cons pe_int pa_nil)))))
      (pss_cons (ps_set (i := 3) sc_law.nd rfl (by first | exact Or.inl rfl | exact Or.inr rfl) (pe_lst (pa_cons (pe_ix ix_seq (pe_call (F_law_lanes.up (by decide)).ok hr rfl T.g_law_lanes.1 T.g_law_lanes.2 (F_law_lanes.up (by decide)).bn .nil (pass_own rfl rfl rfl rfl) (pa_cons (pv 2) pa_nil)) pe_int fun _ _ => rfl) pa_nil)))
      (pss_cons (ps_set (i := 4) sc_law.nd rfl (by first | exact Or.inl rfl | exact Or.inr rfl) (pe_make T.mk_Watch (F_Watch___init.a.up (by decide)).ok hr rfl T.g_Watch.1 (F_Watch___init.a.up (by decide)).bn .nil (pass_own rfl rfl rfl rfl) (pa_cons (pe_call (F_law_built.up (by decide)).ok hr rfl T.g_law_built.1 T.g_law_built.2 (F_law_built.up (by decide)).bn .nil (pass_own rfl rfl rfl rfl) (pa_cons (pv 2) pa_nil)) (pa_cons (pv 3) pa_nil))))
      (pss_cons (ps_set (i := 5) sc_law.nd rfl (by first | exact Or.inl rfl | exact Or.inr rfl) (pe_lst pa_nil))
      (pss_cons (ps_for (passes_of rfl) rfl (pi_range1 rfl T.n_range (pa_cons pe_int pa_nil)) (pg_name (i := 6) sc_law.nd rfl (by first | exact Or.inl rfl | exact Or.inr rfl)) (pss_cons (ps_set (i := 7) sc_law.nd rfl (by first | exact Or.inl rfl | exact Or.inr rfl) (pe_call (F_law_pool.up (by decide)).ok hr rfl T.g_law_pool.1 T.g_law_pool.2 (F_law_pool.up (by decide)).bn .nil (pass_own rfl rfl rfl rfl) (pa_cons (pe_op op_addU (pe_call (F_law_cell.up (by decide)).ok hr rfl T.g_law_cell.1 T.g_law_cell.2 (F_law_cell.up (by decide)).bn .nil (pass_own rfl rfl rfl rfl) (pa_cons (pv 0) (pa_cons (pe_op op_addU pe_int (pv 6)) pa_nil))) (pv 6)) pa_nil)))
      (pss_cons (ps_set (i := 8) sc_law.nd rfl (by first | exact Or.inl rfl | exact Or.inr rfl) (pe_call (F_law_list.up (by decide)).ok hr rfl T.g_law_list.1 T.g_law_list.2 (F_law_list.up (by decide)).bn .nil (pass_own rfl rfl rfl rfl) (pa_cons (pv 7) (pa_cons (pv 2) (pa_cons (pv 3) pa_nil)))))
      (pss_cons (ps_if (PW.pt (pw_and (pt_cmpR (op_eqP (by have := (hr).units; exact this)) (pv 6) pe_int (nomark _)) (pw_and1 (pt_cmpR (op_neP (by have := (hr).units; exact this)) (pe_ix ix_seq (pv 2) pe_int fun _ _ => rfl) (pe_lst pa_nil) (nomark _)))))
      (pss_one (ps_set (i := 8) sc_law.nd rfl (by first | exact Or.inl rfl | exact Or.inr rfl) (pe_call (F_law_long.up (by decide)).ok hr rfl T.g_law_long.1 T.g_law_long.2 (F_law_long.up (by decide)).bn .nil (pass_own rfl rfl rfl rfl) (pa_cons (pv 7) (pa_cons (pv 3) (pa_cons (pe_ix ix_seq (pe_call (F_law_lanes.up (by decide)).ok hr rfl T.g_law_lanes.1 T.g_law_lanes.2 (F_law_lanes.up (by decide)).bn .nil (pass_own rfl rfl rfl rfl) (pa_cons (pv 2) pa_nil)) pe_int fun _ _ => rfl) pa_nil))))))
      pss_nil)
      (pss_cons (ps_set (i := 9) sc_law.nd rfl (by first | exact Or.inl rfl | exact Or.inr rfl) (pe_callTy call_lstU rfl T.n_list (by decide +kernel) (pa_cons (pv 8) pa_nil)))
      (pss_cons (ps_set (i := 10) sc_law.nd rfl (by first | exact Or.inl rfl | exact Or.inr rfl) (pv 4))
      (pss_cons (ps_set (i := 11) sc_law.nd rfl (by first | exact Or.inl rfl | exact Or.inr rfl) (pe_call (F_law_all.up (by decide)).ok hr rfl T.g_law_all.1 T.g_law_all.2 (F_law_all.up (by decide)).bn .nil (pass_own rfl rfl rfl rfl) (pa_cons (pv 2) (pa_cons (pv 3) (pa_cons (pv 8) pa_nil)))))
      (pss_cons (ps_asg (pe_call (F_law_added.up (by decide)).ok hr rfl T.g_law_added.1 T.g_law_added.2 (F_law_added.up (by decide)).bn .nil (pass_own rfl rfl rfl rfl) (pa_cons (pv 4) (pa_cons (pv 8) pa_nil))) (pg_tup rfl (pgs_cons (pg_name (i := 4) sc_law.nd rfl (by first | exact Or.inl rfl | exact Or.inr rfl)) (pgs_cons (pg_name (i := 12) sc_law.nd rfl (by first | exact Or.inl rfl | exact Or.inr rfl)) pgs_nil))))
      (pss_cons (ps_if (PW.pt (pw_or (pt_cmpR (op_neP (by have := (hr).units; exact this)) (pv 12) (pe_ix ix_seq (pv 11) pe_int fun _ _ => rfl) (nomark _)) (pw_or (pt_cmpR (op_neP (by have := (hr).units; exact this)) (pv 8) (pv 9) (nomark _)) (pw_or1 (pt_cmpR (op_neP (by have := (hr).units; exact this)) (pe_meth0 (pv 10) T.cl_Watch T.me_Watch_told (F_Watch_told.up (by decide)).ok hr (F_Watch_told.up (by decide)).bn .nil (pass_own rfl rfl rfl rfl)) (pe_meth0 (pv 4) T.cl_Watch T.me_Watch_told (F_Watch_told.up (by decide)).ok hr (F_Watch_told.up (by decide)).bn .nil (pass_own rfl rfl rfl rfl)) (nomark _))))))
      (pss_one (ps_ret pe_bl))
      pss_nil)
      (pss_cons (ps_if (pt_cmpR op_isN1 (pv 12) pe_non (nomark _))
      (pss_cons (ps_asg (pe_slice sl_U (pv 11) po_none (po_some pe_int)) (pg_tup rfl (pgs_cons (pg_name (i := 2) sc_law.nd rfl (by first | exact Or.inl rfl | exact Or.inr rfl)) (pgs_cons (pg_name (i := 3) sc_law.nd rfl (by first | exact Or.inl rfl | exact Or.inr rfl)) pgs_nil))))
      (pss_one (ps_set (i := 5) sc_law.nd rfl (by first | exact Or.inl rfl | exact Or.inr rfl) (pe_op op_addU (pv 5) (pv 9)))))
      pss_nil)
      (pss_cons (ps_expr (pe_bm PySem.F.plainAttrs_list PySem.F.slot_list_append PySem.F.type_list_append mt_append (pv 8) (pa_cons (pe_tup (pa_cons pe_str (pa_cons pe_str pa_nil))) pa_nil)))
      (pss_one (ps_if (pt_not (pt_val (pe_call (F_law_same.up (by decide)).ok hr rfl T.g_law_same.1 T.g_law_same.2 (F_law_same.up (by decide)).bn .nil (pass_own rfl rfl rfl rfl) (pa_cons (pv 4) (pa_cons (pv 2) (pa_cons (pv 3) (pa_cons (pv 5) pa_nil)))))))
      (pss_one (ps_ret pe_bl))
      pss_nil)))))))))))))
      (pss_one (ps_ret pe_bl)))))))), fun ws ka out B F0 Q hC hR hX => ?_⟩)
  obtain ⟨s0, rfl, zs, hs0, rfl, rfl⟩ := hC
  refine q_asgN (evn_callP (ea1 (ev_callP (ea2 (ev_var rfl) ev_int) ⟨_, _, rfl, zs, 0, hs0, rfl, rfl, rfl⟩)) ⟨_, rfl, _, rfl, rfl, rfl⟩) (fun a => ?_)
  have hpz := plOf_ok (zs.getD 0 0)
  generalize plOf (zs.getD 0 0) = pz at *
  refine q_call (kr := []) (k1 := [(a, .lst pz.ds)]) (ea3 (ev_var rfl) ev_int ev_int) ⟨_, _, _, rfl, a, pz, 0, 4, 7, rfl, rfl, rfl, rfl, hpz, by decide, by decide, by decide, by decide, by decide, by decide, rfl⟩ (fun o k ⟨ps, es, p', h, _⟩ => ⟨_, h⟩) ?_
  rintro _ _ ⟨ps, es, p1, e, rfl, hp1, hok, hrg, hpl, hel⟩
  cases e
  refine Gp.less (k1 := []) ?_ (List.nil_sublist _)
  have hpl5 : ps.length ≤ 5 := by omega
  have hel7 : es.length ≤ 7 := by omega
  obtain ⟨r0, hr0, _⟩ := hrg.lane
  have hnm : ∀ s ∈ lnN es, isNm s = true := fun s hs => by
    obtain ⟨r, m, rfl⟩ := List.mem_map.mp hs
    exact hok.en r m
  obtain ⟨l0, ls, hls⟩ : ∃ l0 ls, lnN es = l0 :: ls := by
    cases es with
    | nil => cases hr0
    | cons r t => exact ⟨_, _, rfl⟩
  have hl0 : l0 ∈ lnN es := by rw [hls]; exact List.mem_cons_self
  have hpne : ps ≠ [] := fun z => by
    have := (hok.st r0 hr0).1
    rw [z] at this
    cases this
  have hps : PsOk ps := ⟨hpne, by omega, hok.pn⟩
  refine q_asg (w := .val (.lst (stD [l0]))) (evn_lst (ds := stD [l0]) (ea1 (ev_ixV (d := .str l0) (ev_callP (ea1 (ev_var rfl)) ⟨_, rfl, ps, es, rfl, by omega, rfl, rfl⟩) ev_int .vl (by rw [hls]; exact at0))) (show 1 ≤ 100000 by decide)).lst ?_
  refine q_asgR (evr_make (wd := []) (P := fun w k => ∃ w0 A, w = .val (.adr w0) ∧ k = WaC K w0 A ⟨ps, es, goalL es [l0], [], [], []⟩) (ea2 (ev_built (ev_var rfl) hok) (ev_var rfl)) dv_nil fun a => ⟨_, ⟨_, _, _, rfl, a, ps, es, [l0], false, rfl, rfl, .vl, (fun x hx => by rw [List.mem_singleton.mp hx]; exact hl0), by omega, by omega, hok.ed, rfl, rfl⟩, fun o' k ⟨A, h1, h2⟩ => ⟨h1, a, A, rfl, h2⟩⟩) fun w k1 ⟨w0, A, h1, h2⟩ => ?_
  subst h1 h2
  refine q_asg (w := .val (.lst [])) (evn_lst (ds := []) ea_nil (by decide)).lst ?_
  have hL0 : Liv ⟨ps, es, goalL es [l0], [], [], []⟩ [l0] := ⟨⟨hok.ed, hnm, hok.st, (by show es.length ≤ 14; omega), fun x hx => (by rw [List.mem_singleton.mp hx]; exact hl0), List.nodup_cons.mpr ⟨List.not_mem_nil, List.nodup_nil⟩⟩, rfl⟩
  refine q_forn (ei_range1 (ea1 ev_int) (by decide) (by decide)) (fun i ro ka => ∃ S ws A, ∃ (v6 v7 v8 v9 v10 v11 v12 : Option W), ro = [some s0, some (.val (.adr a)), some (.val (PtD S.ps S.es)), some (.val (.lst (stD ws))), some (.val (.adr w0)), some (.val (.lst S.dl)), v6, v7, v8, v9, v10, v11, v12] ∧ ka = WaC K w0 A S ∧ Liv S ws ∧ S.ps = ps ∧ DlOk S.dl ∧ S.dl.length ≤ 70 * i ∧ S.al.length = S.dl.length ∧ S.pt = []) ⟨⟨ps, es, goalL es [l0], [], [], []⟩, [l0], A, _, _, _, _, _, _, _, rfl, rfl, hL0, rfl, (fun _ z => by cases z), Nat.le_refl _, rfl, rfl⟩ (fun i ro ka _ => trivial) (fun i w ro2 ka2 ta' hw h => ?_) (fun ro2 ka2 ta' h _ => ?_)
  rotate_left
  · obtain ⟨S, ws, A, v6, v7, v8, v9, v10, v11, v12, e1, e2, _⟩ := h
    subst e1 e2
    exact Gp.less (k1 := []) (g_ret hR ev_bl ⟨rfl, rfl⟩) (List.nil_sublist _)
  obtain ⟨S, ws, A, v6, v7, v8, v9, v10, v11, v12, e1, e2, hL, hSp, hD, hdl, hal, hpt⟩ := h
  subst e1 e2
  rw [List.getElem?_map] at hw
  obtain ⟨i', hi', rfl⟩ := Option.map_eq_some_iff.mp hw
  obtain ⟨hi1, hi2⟩ := List.getElem?_eq_some_iff.mp hi'
  rw [List.getElem_range] at hi2
  subst hi2
  have hi3 : i < 6 := by
    rw [List.length_range] at hi1
    exact hi1
  have hel2 : S.es.length ≤ 14 := hL.row.el
  have hwl : ws.length ≤ 14 := by
    have : ws.length ≤ (lnN S.es).length := nd_sub_len hL.row.wd hL.row.wi
    rw [lnN_len] at this
    omega
  have hps2 : PsOk S.ps := by rw [hSp]; exact hps
  have hSl : S.ps.length ≤ 5 := by rw [hSp]; exact hpl5
  refine q_asgN (evn_callP (ea1 (ev_addI (ev_callP (ea2 (ev_var rfl) ((ev_addI ev_int (ev_var rfl)).to (w' := .val (.int ((1 + i : Nat) : Int))) (congrArg (fun z => W.val (.int z)) (by push_cast; rfl)))) ⟨_, _, rfl, zs, 1 + i, hs0, rfl, rfl, rfl⟩) (ev_var rfl))) ⟨_, rfl, _, rfl, rfl, rfl⟩) (fun b => ?_)
  have hpq := plOf_ok (zs.getD (1 + i) 0 + (i : Int))
  generalize plOf (zs.getD (1 + i) 0 + (i : Int)) = q at *
  refine Gp.perm (k1 := [(b, .lst q.ds)] ++ WaC K w0 A S) ?_ List.perm_append_comm
  refine q_call (k1 := [(b, .lst q.ds)]) (WaC K w0 A S) (ea3 (ev_var rfl) (ev_var rfl) (ev_var rfl)) ⟨_, _, _, rfl, b, q, 0, S, ws, rfl, rfl, rfl, hL, hps2, hpq, by decide, by decide, rfl, rfl⟩ (fun o k ⟨c, ds, p', h, _⟩ => ⟨_, h⟩) ?_
  rintro _ _ ⟨c, ds, p2, e, rfl, hO, hdsl, hdsp, hp2⟩
  cases e
  -- the long list
  have nilT : ∀ rs : List Ln, eqD (.lst (rwD rs)) (.lst []) = decide (rs = []) := fun rs => by cases rs <;> rfl
  have plR : ∀ rs : List Ln, (rwD rs).all (pl 60) = true := fun rs => List.all_eq_true.mpr fun d hd => by
    obtain ⟨r, _, rfl⟩ := List.mem_map.mp hd
    rfl
  refine q_whenI (b := (((i : Int) == 5) && !decide (S.es = []))) (fun ro k => ∃ c ds, ∃ p3 : Pl, ro = [some s0, some (.val (.adr a)), some (.val (PtD S.ps S.es)), some (.val (.lst (stD ws))), some (.val (.adr w0)), some (.val (.lst S.dl)), some (.val (.int (i : Int))), some (.val (.adr b)), some (.val (.adr c)), v9, v10, v11, v12] ∧ k = [(b, .lst (Pl.ds p3)), (c, .lst ds)] ++ WaC K w0 A S ∧ ROk S ds ∧ ds.length ≤ 60 ∧ ∀ d ∈ ds, pl 60 d = true) (et_and (et_test (ev_eqI (ev_var rfl) ev_int)) fun _ => (et_test (ev_ne (d := .lst (rwD S.es)) (e := .lst []) (ev_ixV (ev_var rfl) ev_int .vl (atI_nat (j := 1) rfl)) (evn_lst (ds := []) ea_nil (by decide)).lst .v .v (plR _) rfl)).to (by rw [nilT])) (fun hb nx hnx => ?long) (fun _ => ⟨c, ds, p2, rfl, rfl, hO, by omega, hdsp⟩) (fun ro2 ka2 h => ?_)
  case long =>
    obtain ⟨l1, lt, hl1⟩ : ∃ l1 lt, lnN S.es = l1 :: lt := by
      cases hes : S.es with
      | nil =>
        rw [hes, Bool.and_eq_true] at hb
        cases hb.2
      | cons r t => exact ⟨_, _, rfl⟩
    have hl1n : isNm l1 = true := hL.row.nm l1 (by show l1 ∈ lnN S.es; rw [hl1]; exact List.mem_cons_self)
    refine g_call (k1 := [(b, .lst (Pl.ds p2))]) ([(c, .lst ds)] ++ WaC K w0 A S) (ea3 (ev_var rfl) (ev_var rfl) (ev_ixV (d := .str l1) (ev_callP (ea1 (ev_var rfl)) ⟨_, rfl, S.ps, S.es, rfl, by omega, rfl, rfl⟩) ev_int .vl (by rw [hl1]; exact at0))) ⟨_, _, _, rfl, b, p2, 300, ws, l1, rfl, rfl, rfl, Nat.le_trans (isNm_len hl1n) (by decide), by omega, hp2.up (by omega), by decide, by decide, rfl, rfl⟩ (fun o k ⟨c, ds, p', h, _⟩ => ⟨_, h⟩) ?_
    rintro _ _ ⟨c2, ds2, p4, e, rfl, hO2, hl2, hp2', _⟩
    cases e
    refine Gp.less (k1 := [(b, .lst (Pl.ds p4)), (c2, .lst ds2)] ++ WaC K w0 A S) (hnx _ _ ⟨c2, ds2, p4, rfl, rfl, hO2 S, hl2, hp2'⟩) ?_
    exact (List.Sublist.refl [(b, Nd.lst (Pl.ds p4)), (c2, Nd.lst ds2)]).append (List.sublist_append_right _ _)
  clear hO hdsl hdsp
  obtain ⟨c, ds, p3, e1, e2, hO, hdsl, hdsp⟩ := h
  subst e1 e2
  refine Gp.less (k1 := [(c, .lst ds)] ++ WaC K w0 A S) ?_ (List.Sublist.append (.cons _ (List.Sublist.refl _)) (List.Sublist.refl _))
  refine q_asg (w := .val (.lst ds)) (evn_cb (ea1 (ev_var rfl)) (rcn_lst (ds := ds) (.ce 0 rfl) (.inl rfl))).lst ?_
  refine q_asg (w := .val (.adr w0)) (ev_var rfl) ?_
  refine q_call (k1 := [(c, .lst ds)]) (WaC K w0 A S) (ea3 (ev_var rfl) (ev_var rfl) (ev_var rfl)) ⟨_, _, _, rfl, S, ws, c, ds, rfl, rfl, rfl, hL, hO, by omega, rfl, rfl⟩ (fun o k ⟨ws', _, h, _⟩ => ⟨_, h⟩) ?_
  rintro _ _ ⟨ws', hL', e, rfl⟩
  cases e
  refine Gp.perm (k1 := WaC K w0 A S ++ [(c, .lst ds)]) ?_ List.perm_append_comm
  refine q_asgRT (evr_call (k1 := WaC K w0 A S ++ [(c, .lst ds)]) [] (ea2 (k2 := WaC K w0 A S ++ [(c, .lst ds)] ++ []) (ev_var rfl) (by rw [List.append_nil]; exact ev_var rfl)) ⟨_, _, rfl, w0, A, S, ws, c, ds, rfl, rfl, hL, hO, by omega, by omega, by omega, hpt, rfl, rfl⟩ (fun o k ⟨A', h, _⟩ => ⟨_, h⟩)) (fun v k1 h => ?_)
  obtain ⟨d, k2, ⟨A', e1, e2⟩, e3, e4⟩ := h
  cases e1
  rw [List.append_nil] at e4
  subst e2 e3 e4
  refine ⟨_, at_t2, ?_⟩
  obtain ⟨kp1, kp2⟩ := runS_keep ds 0 S
  -- the scene behind it
  obtain ⟨S2, hS2⟩ : ∃ S2, S2 = (if (runS 0 S ds).2.isSome then S else (runS 0 S ds).1) := ⟨_, rfl⟩
  rw [← hS2]
  have two : ((runS 0 S ds).2 = none ∧ S2 = (runS 0 S ds).1 ∧ S2.dl = S.dl ++ ds ∧ S2.al.length = S2.dl.length ∧ DlOk S2.dl) ∨ ((∃ q, (runS 0 S ds).2 = some q) ∧ S2 = S) := by
    cases he : (runS 0 S ds).2 with
    | none =>
      rw [he] at hS2
      have hS2 : S2 = (runS 0 S ds).1 := hS2
      obtain ⟨a1, a2, a3⟩ := runS_done ds 0 S he
      refine .inl ⟨rfl, hS2, by rw [hS2, a1], by rw [hS2, a1, a2, List.length_append, hal], fun d hd => ?_⟩
      rw [hS2, a1] at hd
      exact (List.mem_append.mp hd).elim (hD d) (a3 d)
    | some q =>
      rw [he] at hS2
      exact .inr ⟨⟨q, rfl⟩, hS2⟩
  have hD2 : DlOk S2.dl := by
    rcases two with ⟨_, _, _, _, h⟩ | ⟨_, h⟩
    · exact h
    · rw [h]; exact hD
  have hkd : ∀ p ∈ WaC K w0 A' S2 ++ [(c, .lst ds)], ndK p.2 = true := fun p hp => by
    rcases List.mem_append.mp hp with h | h
    · exact wa_kd p h
    · rw [List.mem_singleton.mp h]; rfl
  have told : ∀ {ro : Ro} {E' : XK} (x : Nat), ro[x]? = some (some (.val (.adr w0))) → EvD K (tMeth (He.ga K "Watch") "told" (spC K (ct_Watch_told K)) [] E' (tVar x) tNil) ro (WaC K w0 A' S2 ++ [(c, .lst ds)]) (.val (.lst S2.dl)) (WaC K w0 A' S2 ++ [(c, .lst ds)]) := fun {ro} {E'} x h => by
    refine EvR.d (k1 := WaC K w0 A' S2 ++ [(c, .lst ds)]) (P := fun w k => w = .val (.lst S2.dl) ∧ k = WaC K w0 A' S2 ++ [(c, .lst ds)]) (EvR.frzU (EvR.thaw (k1 := []) (kt := WaC K w0 A' S2 ++ [(c, .lst ds)]) (evr_meth (m := "told") (Cc := ct_Watch_told K) (k1 := []) (k2 := []) [] (ev_var (i := x) (w := .val (WaD K S2)) ?v) .v rfl ea_nil ⟨_, rfl, S2, rfl, rfl, rfl⟩ (fun o k ⟨c, e, _⟩ => ⟨_, e⟩)) hkd (RoT.refl.set h (frz_wa fun _ z => List.mem_append_left _ z)) ?th) fun w k h => ?fz) fun _ _ z => z
    case v =>
      obtain ⟨hi, _⟩ := List.getElem?_eq_some_iff.mp h
      rw [List.getElem?_set]
      simp [hi]
    case th =>
      rintro w k ⟨d', k3, ⟨c, e1, e2⟩, e3, e4⟩
      cases e1
      refine ⟨⟨_, e3, rfl⟩, fun q hq => ?_⟩
      rw [e4, e2, List.append_nil] at hq
      rw [List.mem_singleton.mp hq]
      exact hD2.ti
    case fz =>
      obtain ⟨k0, ⟨d', k3, ⟨c3, e1, e2⟩, e3, e4⟩, e5⟩ := h
      cases e1
      exact ⟨.adr c3, .lst S2.dl, [(c3, .lst S2.dl)], WaC K w0 A' S2 ++ [(c, .lst ds)], e3, by rw [e5, e4, e2, List.append_nil]; exact List.perm_append_comm, fun p hp => (by rw [List.mem_singleton.mp hp]; rfl), FzT.adr (frz_l List.mem_cons_self (FzL.same _)), rfl, rfl⟩
  have tp : pl 61 (tolO (runS 0 S ds).2) = true := by
    cases he : (runS 0 S ds).2 with
    | none => rfl
    | some q =>
      obtain ⟨C, f, x⟩ := q
      obtain ⟨q, S', d, hq⟩ := runS_er ds 0 S _ he
      rcases doE_plx hq with ⟨s, rfl⟩ | ⟨s, rfl⟩ <;> rfl
  have dp : pl 61 (.lst ds) = true := List.all_eq_true.mpr hdsp
  have sp : pl 61 (.lst S2.dl) = true := hD2.pl
  refine q_when (b := false) (et_or0 ((et_test (ev_ne (d := tolO (runS 0 S ds).2) (e := tolO (runS 0 S ds).2) (ev_var rfl) (ev_ixV (ds := [PtD (runS 0 S ds).1.ps (runS 0 S ds).1.es, .lst (stD ws'), tolO (runS 0 S ds).2]) (ev_var rfl) ev_int .vt (atI_nat (j := 2) rfl)) .v .v tp tp)).to (by rw [eqD_refl 61 _ tp]; rfl)) (et_or0 ((et_test (ev_ne (d := .lst ds) (e := .lst ds) (ev_var rfl) (ev_var rfl) (.c 8 rfl) .v dp dp)).to (by rw [eqD_refl 61 _ dp]; rfl)) ((et_test (ev_ne (d := .lst S2.dl) (e := .lst S2.dl) (told 10 rfl) (told 4 rfl) .v .v sp sp)).to (by rw [eqD_refl 61 _ sp]; rfl)))) (fun z => by cases z) (fun _ => ?_)
  refine q_meet (fun ro k => ∃ ws2, ∃ (v9 v11 v12 : Option W), ro = [some s0, some (.val (.adr a)), some (.val (PtD S2.ps S2.es)), some (.val (.lst (stD ws2))), some (.val (.adr w0)), some (.val (.lst S2.dl)), some (.val (.int (i : Int))), some (.val (.adr b)), some (.val (.adr c)), v9, some (.val (.adr w0)), v11, v12] ∧ k = WaC K w0 A' S2 ++ [(c, .lst ds)] ∧ Liv S2 ws2 ∧ S2.ps = ps ∧ S2.dl.length ≤ 70 * (i + 1) ∧ S2.al.length = S2.dl.length ∧ S2.pt = []) (fun nx hnx => ?_) (fun ro2 ka2 h => ?_)
  · rcases two with ⟨he, h1, h2, h3, _⟩ | ⟨⟨q, he⟩, h1⟩
    · rw [he]
      refine g_if (b := true) ((et_test (ev_isN (d := tolO none) (ev_var rfl))).to rfl) (fun _ => ?_) (fun z => by cases z)
      refine q_asgT (w := .val (.tup [PtD (runS 0 S ds).1.ps (runS 0 S ds).1.es, .lst (stD ws')])) (ev_slT (ds := [PtD (runS 0 S ds).1.ps (runS 0 S ds).1.es, .lst (stD ws'), tolO none]) (ev_var rfl) eo_none (eo_some ev_int)) at_t2 ?_
      refine g_asg (w := .val (.lst (S.dl ++ ds))) (evn_op (ev_var rfl) (ev_var rfl) (rvn_cat (b1 := false) (b2 := false) .vl .vl (by omega))).lst (hnx _ _ ⟨ws', _, _, _, by rw [← h2, h1]; rfl, rfl, by rw [h1]; exact hL', by rw [h1, kp1]; exact hSp, ?_, h3, by rw [h1, kp2]; exact hpt⟩)
      rw [h2, List.length_append]
      omega
    · rw [he]
      refine g_if (b := false) ((et_test (ev_isN (d := tolO (some q)) (ev_var rfl))).to rfl) (fun z => by cases z) (fun _ => g_next (hnx _ _ ⟨ws, _, _, _, by rw [h1]; rfl, rfl, by rw [h1]; exact hL, by rw [h1]; exact hSp, by rw [h1]; omega, by rw [h1]; exact hal, by rw [h1]; exact hpt⟩))
  obtain ⟨ws2, v9, v11, v12, e1, e2, hL2, hSp2, hdl2, hal2, hpt2⟩ := h
  subst e1 e2
  refine q_app (a := c) (j0 := 8) (j := 8) (d := .tup (stD ["take", "nobody"])) (ds := ds) (ev_var rfl) rfl (ev_tup (ds := stD ["take", "nobody"]) (ea2 ev_str ev_str) (show 2 ≤ 100000 by decide)) rfl (by omega) ?_
  have hel3 : S2.es.length ≤ 14 := hL2.row.el
  have consame : ct_law_same K [.val (.adr w0), .val (PtD S2.ps S2.es), .val (.lst (stD ws2)), .val (.lst S2.dl)] (WaC K w0 A' S2) (Rt (.bl true) (WaC K w0 A' S2)) := ⟨_, _, _, _, rfl, w0, A', S2, ws2, [], rfl, rfl, rfl, .inl ⟨rfl, rfl⟩, hL2.gs.symm, hL2.row.nd, by rw [hSp2]; omega, by omega, hD2.ti, hD2.pl, rfl, rfl⟩
  refine g_if (b := false) ((et_not (et_B (ev_callF (k1 := WaC K w0 A' S2) (k2 := WaC K w0 A' S2) [(c, .lst (ds ++ [.tup (stD ["take", "nobody"])]))] (ea_cons (ev_var rfl) (ea3 (ev_var rfl) (ev_var rfl) (ev_var rfl))) consame (fun _ _ z => z)))).to rfl) (fun z => by cases z) (fun _ => g_next ?_)
  exact Gp.less (k1 := WaC K w0 A' S2) (g_jp ⟨S2, ws2, A', _, _, _, _, _, _, _, rfl, rfl, hL2, hSp2, hD2, hdl2, hal2, hpt2⟩) (List.sublist_append_left _ _)
end
theorem tx_of {K : PySem.W.Frag} {mg : Str → Option Value} {h : Heap} (X : K.In h) (G : h.Ns mainGlobals mg) (c : SaysY exs dfs K) : Tx K mg where
  v_LETTERS := (let ⟨t, e⟩ := He.str_ok X G (c.fact 0 (f := fStr "LETTERS" "abcdefghijklmnopqrstuvwxyz")); ⟨_, e, t, rfl⟩)
  n_len := He.free_ok X G (c.fact 1 (f := fFree "len"))
  v_LONGEST := (let ⟨t, e⟩ := He.int_ok X G (c.fact 2 (f := fInt "LONGEST" 8)); ⟨_, e, t, rfl⟩)
  n_isinstance := He.free_ok X G (c.fact 3 (f := fFree "isinstance"))
  n_str := He.free_ok X G (c.fact 4 (f := fFree "str"))
  n_all := He.free_ok X G (c.fact 5 (f := fFree "all"))
  v_DIGITS := (let ⟨t, e⟩ := He.str_ok X G (c.fact 6 (f := fStr "DIGITS" "0123456789")); ⟨_, e, t, rfl⟩)
  n_list := He.free_ok X G (c.fact 7 (f := fFree "list"))
  t0_Net___init := t0_ok (c.fact 8 (f := fT0 ("Net", some "__init__") 0))
  n_tuple := He.free_ok X G (c.fact 9 (f := fFree "tuple"))
  g_is_name := ⟨He.glo_ok X G (He.ba (c.fact 10 (f := fGlo "is_name"))).1, (He.ba (c.fact 10 (f := fGlo "is_name"))).2⟩
  g_BadName := ⟨He.glo_ok X G (He.ba (c.fact 11 (f := fGlo "BadName"))).1, (He.ba (c.fact 11 (f := fGlo "BadName"))).2⟩
  g_NameTaken := ⟨He.glo_ok X G (He.ba (c.fact 12 (f := fGlo "NameTaken"))).1, (He.ba (c.fact 12 (f := fGlo "NameTaken"))).2⟩
  g_NoPost := ⟨He.glo_ok X G (He.ba (c.fact 13 (f := fGlo "NoPost"))).1, (He.ba (c.fact 13 (f := fGlo "NoPost"))).2⟩
  g_NoLane := ⟨He.glo_ok X G (He.ba (c.fact 14 (f := fGlo "NoLane"))).1, (He.ba (c.fact 14 (f := fGlo "NoLane"))).2⟩
  mk_Net := He.mkr_ok (c.fact 15 (f := fMkr "Net"))
  g_Net := ⟨He.glo_ok X G (He.ba (c.fact 16 (f := fGlo "Net"))).1, (He.ba (c.fact 16 (f := fGlo "Net"))).2⟩
  mk_Scene := He.mkr_ok (c.fact 17 (f := fMkr "Scene"))
  g_Scene := ⟨He.glo_ok X G (He.ba (c.fact 18 (f := fGlo "Scene"))).1, (He.ba (c.fact 18 (f := fGlo "Scene"))).2⟩
  cl_Net := He.cls_ok (c.fact 19 (f := fCls "Net"))
  me_Net_copy := He.meth_ok (c.fact 20 (f := fMeth "Net" "copy"))
  g_first_missing := ⟨He.glo_ok X G (He.ba (c.fact 21 (f := fGlo "first_missing"))).1, (He.ba (c.fact 21 (f := fGlo "first_missing"))).2⟩
  pr_Net_lanes := prop_ok (c.fact 22 (f := fProp "Net" "lanes"))
  g_BadDeed := ⟨He.glo_ok X G (He.ba (c.fact 23 (f := fGlo "BadDeed"))).1, (He.ba (c.fact 23 (f := fGlo "BadDeed"))).2⟩
  g_check_deed := ⟨He.glo_ok X G (He.ba (c.fact 24 (f := fGlo "check_deed"))).1, (He.ba (c.fact 24 (f := fGlo "check_deed"))).2⟩
  me_Net_lane := He.meth_ok (c.fact 25 (f := fMeth "Net" "lane"))
  g_in_net_order := ⟨He.glo_ok X G (He.ba (c.fact 26 (f := fGlo "in_net_order"))).1, (He.ba (c.fact 26 (f := fGlo "in_net_order"))).2⟩
  g_StillWanted := ⟨He.glo_ok X G (He.ba (c.fact 27 (f := fGlo "StillWanted"))).1, (He.ba (c.fact 27 (f := fGlo "StillWanted"))).2⟩
  me_Net_cut := He.meth_ok (c.fact 28 (f := fMeth "Net" "cut"))
  g_NotWanted := ⟨He.glo_ok X G (He.ba (c.fact 29 (f := fGlo "NotWanted"))).1, (He.ba (c.fact 29 (f := fGlo "NotWanted"))).2⟩
  n_enumerate := He.free_ok X G (c.fact 30 (f := fFree "enumerate"))
  g_do_deed := ⟨He.glo_ok X G (He.ba (c.fact 31 (f := fGlo "do_deed"))).1, (He.ba (c.fact 31 (f := fGlo "do_deed"))).2⟩
  t0_Watch___init := t0_ok (c.fact 32 (f := fT0 ("Watch", some "__init__") 0))
  g_same_scene := ⟨He.glo_ok X G (He.ba (c.fact 33 (f := fGlo "same_scene"))).1, (He.ba (c.fact 33 (f := fGlo "same_scene"))).2⟩
  g_do_all := ⟨He.glo_ok X G (He.ba (c.fact 34 (f := fGlo "do_all"))).1, (He.ba (c.fact 34 (f := fGlo "do_all"))).2⟩
  n_int := He.free_ok X G (c.fact 35 (f := fFree "int"))
  g_law_take := ⟨He.glo_ok X G (He.ba (c.fact 36 (f := fGlo "_law_take"))).1, (He.ba (c.fact 36 (f := fGlo "_law_take"))).2⟩
  n_range := He.free_ok X G (c.fact 37 (f := fFree "range"))
  g_law_many := ⟨He.glo_ok X G (He.ba (c.fact 38 (f := fGlo "_law_many"))).1, (He.ba (c.fact 38 (f := fGlo "_law_many"))).2⟩
  g_law_mixed := ⟨He.glo_ok X G (He.ba (c.fact 39 (f := fGlo "_law_mixed"))).1, (He.ba (c.fact 39 (f := fGlo "_law_mixed"))).2⟩
  me_Net_post := He.meth_ok (c.fact 40 (f := fMeth "Net" "post"))
  g_law_lanes := ⟨He.glo_ok X G (He.ba (c.fact 41 (f := fGlo "_law_lanes"))).1, (He.ba (c.fact 41 (f := fGlo "_law_lanes"))).2⟩
  g_law_stranger := ⟨He.glo_ok X G (He.ba (c.fact 42 (f := fGlo "_law_stranger"))).1, (He.ba (c.fact 42 (f := fGlo "_law_stranger"))).2⟩
  g_law_form := ⟨He.glo_ok X G (He.ba (c.fact 43 (f := fGlo "_law_form"))).1, (He.ba (c.fact 43 (f := fGlo "_law_form"))).2⟩
  g_law_drop := ⟨He.glo_ok X G (He.ba (c.fact 44 (f := fGlo "_law_drop"))).1, (He.ba (c.fact 44 (f := fGlo "_law_drop"))).2⟩
  cl_Watch := He.cls_ok (c.fact 45 (f := fCls "Watch"))
  pr_Watch_net := prop_ok (c.fact 46 (f := fProp "Watch" "net"))
  pr_Net_posts := prop_ok (c.fact 47 (f := fProp "Net" "posts"))
  me_Net_end_of := He.meth_ok (c.fact 48 (f := fMeth "Net" "end_of"))
  me_Net_start_of := He.meth_ok (c.fact 49 (f := fMeth "Net" "start_of"))
  me_Watch_told := He.meth_ok (c.fact 50 (f := fMeth "Watch" "told"))
  pr_Watch_wanted := prop_ok (c.fact 51 (f := fProp "Watch" "wanted"))
  g_law_in_order := ⟨He.glo_ok X G (He.ba (c.fact 52 (f := fGlo "_law_in_order"))).1, (He.ba (c.fact 52 (f := fGlo "_law_in_order"))).2⟩
  xc_NotWanted := xcB_ok (c.fact 53 (f := fXc "NotWanted"))
  xn_NotWanted_name := He.noat_ok (c.fact 54 (f := fNoat "NotWanted" "name"))
  xc_StillWanted := xcB_ok (c.fact 55 (f := fXc "StillWanted"))
  xn_StillWanted_name := He.noat_ok (c.fact 56 (f := fNoat "StillWanted" "name"))
  xc_NoLane := xcB_ok (c.fact 57 (f := fXc "NoLane"))
  xn_NoLane_name := He.noat_ok (c.fact 58 (f := fNoat "NoLane" "name"))
  xc_NoPost := xcB_ok (c.fact 59 (f := fXc "NoPost"))
  xn_NoPost_name := He.noat_ok (c.fact 60 (f := fNoat "NoPost" "name"))
  xc_NameTaken := xcB_ok (c.fact 61 (f := fXc "NameTaken"))
  xn_NameTaken_name := He.noat_ok (c.fact 62 (f := fNoat "NameTaken" "name"))
  xc_BadName := xcB_ok (c.fact 63 (f := fXc "BadName"))
  xn_BadName_name := He.noat_ok (c.fact 64 (f := fNoat "BadName" "name"))
  xc_BadDeed := xcB_ok (c.fact 65 (f := fXc "BadDeed"))
  xn_BadDeed_place := He.noat_ok (c.fact 66 (f := fNoat "BadDeed" "place"))
  io_Watch_Add := io2_ok (c.fact 67 (f := fIo2 "Watch" .Add))
  g_law_deed := ⟨He.glo_ok X G (He.ba (c.fact 68 (f := fGlo "_law_deed"))).1, (He.ba (c.fact 68 (f := fGlo "_law_deed"))).2⟩
  g_law_due := ⟨He.glo_ok X G (He.ba (c.fact 69 (f := fGlo "_law_due"))).1, (He.ba (c.fact 69 (f := fGlo "_law_due"))).2⟩
  g_law_after := ⟨He.glo_ok X G (He.ba (c.fact 70 (f := fGlo "_law_after"))).1, (He.ba (c.fact 70 (f := fGlo "_law_after"))).2⟩
  g_law_pool := ⟨He.glo_ok X G (He.ba (c.fact 71 (f := fGlo "_law_pool"))).1, (He.ba (c.fact 71 (f := fGlo "_law_pool"))).2⟩
  g_law_cell := ⟨He.glo_ok X G (He.ba (c.fact 72 (f := fGlo "_law_cell"))).1, (He.ba (c.fact 72 (f := fGlo "_law_cell"))).2⟩
  g_law_strong_net := ⟨He.glo_ok X G (He.ba (c.fact 73 (f := fGlo "_law_strong_net"))).1, (He.ba (c.fact 73 (f := fGlo "_law_strong_net"))).2⟩
  mk_Watch := He.mkr_ok (c.fact 74 (f := fMkr "Watch"))
  g_Watch := ⟨He.glo_ok X G (He.ba (c.fact 75 (f := fGlo "Watch"))).1, (He.ba (c.fact 75 (f := fGlo "Watch"))).2⟩
  g_law_built := ⟨He.glo_ok X G (He.ba (c.fact 76 (f := fGlo "_law_built"))).1, (He.ba (c.fact 76 (f := fGlo "_law_built"))).2⟩
  g_law_list := ⟨He.glo_ok X G (He.ba (c.fact 77 (f := fGlo "_law_list"))).1, (He.ba (c.fact 77 (f := fGlo "_law_list"))).2⟩
  g_law_long := ⟨He.glo_ok X G (He.ba (c.fact 78 (f := fGlo "_law_long"))).1, (He.ba (c.fact 78 (f := fGlo "_law_long"))).2⟩
  g_law_all := ⟨He.glo_ok X G (He.ba (c.fact 79 (f := fGlo "_law_all"))).1, (He.ba (c.fact 79 (f := fGlo "_law_all"))).2⟩
  g_law_added := ⟨He.glo_ok X G (He.ba (c.fact 80 (f := fGlo "_law_added"))).1, (He.ba (c.fact 80 (f := fGlo "_law_added"))).2⟩
  g_law_same := ⟨He.glo_ok X G (He.ba (c.fact 81 (f := fGlo "_law_same"))).1, (He.ba (c.fact 81 (f := fGlo "_law_same"))).2⟩
  xi_BadName := xi_ok (c.fact 82 (f := fXi "BadName"))
  xi_NameTaken := xi_ok (c.fact 83 (f := fXi "NameTaken"))
  xi_NoPost := xi_ok (c.fact 84 (f := fXi "NoPost"))
  xi_NoLane := xi_ok (c.fact 85 (f := fXi "NoLane"))
  xi_BadDeed := xi_ok (c.fact 86 (f := fXi "BadDeed"))
  xi_NotWanted := xi_ok (c.fact 87 (f := fXi "NotWanted"))
  xi_StillWanted := xi_ok (c.fact 88 (f := fXi "StillWanted"))
  g_law := ⟨He.glo_ok X G (He.ba (c.fact 89 (f := fGlo "law"))).1, (He.ba (c.fact 89 (f := fGlo "law"))).2⟩
  kt_NoneType_str := kit_ok (c.fact 90 (f := fKit "NoneType" "str" false))
  kt_bool_str := kit_ok (c.fact 91 (f := fKit "bool" "str" false))
  kt_int_str := kit_ok (c.fact 92 (f := fKit "int" "str" false))
  kt_list_str := kit_ok (c.fact 93 (f := fKit "list" "str" false))
  kt_tuple_str := kit_ok (c.fact 94 (f := fKit "tuple" "str" false))
  kt_str_str := kit_ok (c.fact 95 (f := fKit "str" "str" true))
  na_Net_order := He.noat_ok (c.fact 96 (f := fNoat "Net" "order"))
  na_Net_ends_by_lane := He.noat_ok (c.fact 97 (f := fNoat "Net" "ends_by_lane"))
  cl_Scene := He.cls_ok (c.fact 98 (f := fCls "Scene"))
  na_Scene_base := He.noat_ok (c.fact 99 (f := fNoat "Scene" "base"))
  na_Scene_goal := He.noat_ok (c.fact 100 (f := fNoat "Scene" "goal"))
  na_Scene_deeds := He.noat_ok (c.fact 101 (f := fNoat "Scene" "deeds"))
  na_Scene_ahead := He.noat_ok (c.fact 102 (f := fNoat "Scene" "ahead"))
  na_Scene_pattern_by_name := He.noat_ok (c.fact 103 (f := fNoat "Scene" "pattern_by_name"))
  kt_NoneType_tuple := kit_ok (c.fact 104 (f := fKit "NoneType" "tuple" false))
  kt_str_tuple := kit_ok (c.fact 105 (f := fKit "str" "tuple" false))
  kt_list_tuple := kit_ok (c.fact 106 (f := fKit "list" "tuple" false))
  kt_tuple_tuple := kit_ok (c.fact 107 (f := fKit "tuple" "tuple" true))
  na_Watch_scene := He.noat_ok (c.fact 108 (f := fNoat "Watch" "scene"))
  ex_BadDeed_BadDeed := He.exm_ok (c.fact 109 (f := fExm "BadDeed" "BadDeed" true))
  ex_BadName_BadDeed := He.exm_ok (c.fact 110 (f := fExm "BadName" "BadDeed" false))
  ex_BadName_BadName := He.exm_ok (c.fact 111 (f := fExm "BadName" "BadName" true))
  ex_NameTaken_BadDeed := He.exm_ok (c.fact 112 (f := fExm "NameTaken" "BadDeed" false))
  ex_NameTaken_BadName := He.exm_ok (c.fact 113 (f := fExm "NameTaken" "BadName" false))
  ex_NameTaken_NameTaken := He.exm_ok (c.fact 114 (f := fExm "NameTaken" "NameTaken" true))
  ex_NoPost_BadDeed := He.exm_ok (c.fact 115 (f := fExm "NoPost" "BadDeed" false))
  ex_NoPost_BadName := He.exm_ok (c.fact 116 (f := fExm "NoPost" "BadName" false))
  ex_NoPost_NameTaken := He.exm_ok (c.fact 117 (f := fExm "NoPost" "NameTaken" false))
  ex_NoPost_NoPost := He.exm_ok (c.fact 118 (f := fExm "NoPost" "NoPost" true))
  ex_NoLane_BadDeed := He.exm_ok (c.fact 119 (f := fExm "NoLane" "BadDeed" false))
  ex_NoLane_BadName := He.exm_ok (c.fact 120 (f := fExm "NoLane" "BadName" false))
  ex_NoLane_NameTaken := He.exm_ok (c.fact 121 (f := fExm "NoLane" "NameTaken" false))
  ex_NoLane_NoPost := He.exm_ok (c.fact 122 (f := fExm "NoLane" "NoPost" false))
  ex_NoLane_NoLane := He.exm_ok (c.fact 123 (f := fExm "NoLane" "NoLane" true))
  ex_StillWanted_BadDeed := He.exm_ok (c.fact 124 (f := fExm "StillWanted" "BadDeed" false))
  ex_StillWanted_BadName := He.exm_ok (c.fact 125 (f := fExm "StillWanted" "BadName" false))
  ex_StillWanted_NameTaken := He.exm_ok (c.fact 126 (f := fExm "StillWanted" "NameTaken" false))
  ex_StillWanted_NoPost := He.exm_ok (c.fact 127 (f := fExm "StillWanted" "NoPost" false))
  ex_StillWanted_NoLane := He.exm_ok (c.fact 128 (f := fExm "StillWanted" "NoLane" false))
  ex_StillWanted_StillWanted := He.exm_ok (c.fact 129 (f := fExm "StillWanted" "StillWanted" true))
  ex_NotWanted_BadDeed := He.exm_ok (c.fact 130 (f := fExm "NotWanted" "BadDeed" false))
  ex_NotWanted_BadName := He.exm_ok (c.fact 131 (f := fExm "NotWanted" "BadName" false))
  ex_NotWanted_NameTaken := He.exm_ok (c.fact 132 (f := fExm "NotWanted" "NameTaken" false))
  ex_NotWanted_NoPost := He.exm_ok (c.fact 133 (f := fExm "NotWanted" "NoPost" false))
  ex_NotWanted_NoLane := He.exm_ok (c.fact 134 (f := fExm "NotWanted" "NoLane" false))
  ex_NotWanted_StillWanted := He.exm_ok (c.fact 135 (f := fExm "NotWanted" "StillWanted" false))
  ex_NotWanted_NotWanted := He.exm_ok (c.fact 136 (f := fExm "NotWanted" "NotWanted" true))
  d_is_name := c.def_ 0
  d_first_missing := c.def_ 1
  d_Net___init := c.def_ 2
  d_Net_posts := c.def_ 3
  d_Net_lanes := c.def_ 4
  d_Net_post := c.def_ 5
  d_Net_lane := c.def_ 6
  d_Net_start_of := c.def_ 7
  d_Net_end_of := c.def_ 8
  d_Net_copy := c.def_ 9
  d_Net_cut := c.def_ 10
  d_Scene___init := c.def_ 11
  d_same_scene := c.def_ 12
  d_in_net_order := c.def_ 13
  d_check_deed := c.def_ 14
  d_do_deed := c.def_ 15
  d_do_all := c.def_ 16
  d_Watch___init := c.def_ 17
  d_Watch_net := c.def_ 18
  d_Watch_wanted := c.def_ 19
  d_Watch_told := c.def_ 20
  d_Watch___iadd := c.def_ 21
  d_law_cell := c.def_ 22
  d_law_pool := c.def_ 23
  d_law_take := c.def_ 24
  d_law_stranger := c.def_ 25
  d_law_many := c.def_ 26
  d_law_mixed := c.def_ 27
  d_law_strong_net := c.def_ 28
  d_law_built := c.def_ 29
  d_law_lanes := c.def_ 30
  d_law_in_order := c.def_ 31
  d_law_drop := c.def_ 32
  d_law_deed := c.def_ 33
  d_law_form := c.def_ 34
  d_law_due := c.def_ 35
  d_law_after := c.def_ 36
  d_law_same := c.def_ 37
  d_law_added := c.def_ 38
  d_law_list := c.def_ 39
  d_law_all := c.def_ 40
  d_law_long := c.def_ 41
  d_law := c.def_ 42
  d_BadName___init := c.def_ 43
  d_NameTaken___init := c.def_ 44
  d_NoPost___init := c.def_ 45
  d_NoLane___init := c.def_ 46
  d_BadDeed___init := c.def_ 47
  d_NotWanted___init := c.def_ 48
  d_StillWanted___init := c.def_ 49
section
variable {P : Program} {w : World} {K : PySem.W.Frag} {mg : Str → Option Value} {base : Heap}
theorem z_BadName (T : Tx K mg) : Xn P w K mg base (He.ga K "BadName") "name" := by
  obtain ⟨fd, F⟩ := T.d_BadName___init
  exact ⟨T.xc_BadName, T.xn_BadName_name, _, fd, "name", T.xi_BadName.1, T.xi_BadName.2, init1_ok F sc_BadName___init (fun cdv A outer s H E => pss_one (ps_ost (pv 0) (pv 1))), F.bindsN (fun _ _ _ _ _ _ us hl => match us, hl with | [_, _], _ => rfl)⟩
theorem z_NameTaken (T : Tx K mg) : Xn P w K mg base (He.ga K "NameTaken") "name" := by
  obtain ⟨fd, F⟩ := T.d_NameTaken___init
  exact ⟨T.xc_NameTaken, T.xn_NameTaken_name, _, fd, "name", T.xi_NameTaken.1, T.xi_NameTaken.2, init1_ok F sc_NameTaken___init (fun cdv A outer s H E => pss_one (ps_ost (pv 0) (pv 1))), F.bindsN (fun _ _ _ _ _ _ us hl => match us, hl with | [_, _], _ => rfl)⟩
theorem z_NoPost (T : Tx K mg) : Xn P w K mg base (He.ga K "NoPost") "name" := by
  obtain ⟨fd, F⟩ := T.d_NoPost___init
  exact ⟨T.xc_NoPost, T.xn_NoPost_name, _, fd, "name", T.xi_NoPost.1, T.xi_NoPost.2, init1_ok F sc_NoPost___init (fun cdv A outer s H E => pss_one (ps_ost (pv 0) (pv 1))), F.bindsN (fun _ _ _ _ _ _ us hl => match us, hl with | [_, _], _ => rfl)⟩
theorem z_NoLane (T : Tx K mg) : Xn P w K mg base (He.ga K "NoLane") "name" := by
  obtain ⟨fd, F⟩ := T.d_NoLane___init
  exact ⟨T.xc_NoLane, T.xn_NoLane_name, _, fd, "name", T.xi_NoLane.1, T.xi_NoLane.2, init1_ok F sc_NoLane___init (fun cdv A outer s H E => pss_one (ps_ost (pv 0) (pv 1))), F.bindsN (fun _ _ _ _ _ _ us hl => match us, hl with | [_, _], _ => rfl)⟩
theorem z_BadDeed (T : Tx K mg) : Xn P w K mg base (He.ga K "BadDeed") "place" := by
  obtain ⟨fd, F⟩ := T.d_BadDeed___init
  exact ⟨T.xc_BadDeed, T.xn_BadDeed_place, _, fd, "place", T.xi_BadDeed.1, T.xi_BadDeed.2, init1_ok F sc_BadDeed___init (fun cdv A outer s H E => pss_one (ps_ost (pv 0) (pv 1))), F.bindsN (fun _ _ _ _ _ _ us hl => match us, hl with | [_, _], _ => rfl)⟩
theorem z_NotWanted (T : Tx K mg) : Xn P w K mg base (He.ga K "NotWanted") "name" := by
  obtain ⟨fd, F⟩ := T.d_NotWanted___init
  exact ⟨T.xc_NotWanted, T.xn_NotWanted_name, _, fd, "name", T.xi_NotWanted.1, T.xi_NotWanted.2, init1_ok F sc_NotWanted___init (fun cdv A outer s H E => pss_one (ps_ost (pv 0) (pv 1))), F.bindsN (fun _ _ _ _ _ _ us hl => match us, hl with | [_, _], _ => rfl)⟩
theorem z_StillWanted (T : Tx K mg) : Xn P w K mg base (He.ga K "StillWanted") "name" := by
  obtain ⟨fd, F⟩ := T.d_StillWanted___init
  exact ⟨T.xc_StillWanted, T.xn_StillWanted_name, _, fd, "name", T.xi_StillWanted.1, T.xi_StillWanted.2, init1_ok F sc_StillWanted___init (fun cdv A outer s H E => pss_one (ps_ost (pv 0) (pv 1))), F.bindsN (fun _ _ _ _ _ _ us hl => match us, hl with | [_, _], _ => rfl)⟩
theorem all_ok {fd : FuncData} (T : Tx K mg) (F : FunD K "law" "law" (defArgs s_law) (defBody s_law) (defScope s_law) [] [] (He.ga K "law") fd) : FnOk P w K mg base (L2.CX P w) 16 (He.ga K "law") fd ["_law_script"] (spC K (ct_law K)) := by
  have Z_BadName : Xn P w K mg base (He.ga K "BadName") "name" := z_BadName T
  have Z_NameTaken : Xn P w K mg base (He.ga K "NameTaken") "name" := z_NameTaken T
  have Z_NoPost : Xn P w K mg base (He.ga K "NoPost") "name" := z_NoPost T
  have Z_NoLane : Xn P w K mg base (He.ga K "NoLane") "name" := z_NoLane T
  have Z_BadDeed : Xn P w K mg base (He.ga K "BadDeed") "place" := z_BadDeed T
  have Z_NotWanted : Xn P w K mg base (He.ga K "NotWanted") "name" := z_NotWanted T
  have Z_StillWanted : Xn P w K mg base (He.ga K "StillWanted") "name" := z_StillWanted T
  have F_is_name : Fn P w K mg base 4 (He.ga K "is_name") ["word"] (ct_is_name K) := ok_is_name T
  have F_first_missing : Fn P w K mg base 4 (He.ga K "first_missing") ["names", "known"] (ct_first_missing K) := ok_first_missing T
  have F_Net___init : FnE P w K mg base 4 (He.ma K (He.ga K "Net") "__init__") ["self", "order", "ends_by_lane"] [.ref (He.dflAt ("Net", some "__init__") 0 K), .non] (ct_Net___init K) := ok_Net___init T
  have F_Net_posts : Fn P w K mg base 4 (pga K (He.ga K "Net") "posts") ["self"] (ct_Net_posts K) := ok_Net_posts T
  have F_Net_lanes : Fn P w K mg base 4 (pga K (He.ga K "Net") "lanes") ["self"] (ct_Net_lanes K) := ok_Net_lanes T
  have F_Net_post : Fn P w K mg base 6 (He.ma K (He.ga K "Net") "post") ["self", "name"] (ct_Net_post K) := ok_Net_post T F_is_name Z_BadName Z_NameTaken
  have F_Net_lane : Fn P w K mg base 6 (He.ma K (He.ga K "Net") "lane") ["self", "name", "start", "end"] (ct_Net_lane K) := ok_Net_lane T F_is_name Z_BadName Z_NameTaken Z_NoPost
  have F_Net_start_of : Fn P w K mg base 4 (He.ma K (He.ga K "Net") "start_of") ["self", "lane"] (ct_Net_start_of K) := ok_Net_start_of T Z_NoLane
  have F_Net_end_of : Fn P w K mg base 4 (He.ma K (He.ga K "Net") "end_of") ["self", "lane"] (ct_Net_end_of K) := ok_Net_end_of T Z_NoLane
  have F_Net_copy : Fn P w K mg base 6 (He.ma K (He.ga K "Net") "copy") ["self"] (ct_Net_copy K) := ok_Net_copy T F_Net___init
  have F_Net_cut : Fn P w K mg base 4 (He.ma K (He.ga K "Net") "cut") ["self", "lane"] (ct_Net_cut K) := ok_Net_cut T Z_NoLane
  have F_Scene___init : Fn P w K mg base 4 (He.ma K (He.ga K "Scene") "__init__") ["self", "base", "goal"] (ct_Scene___init K) := ok_Scene___init T
  have F_same_scene : Fn P w K mg base 8 (He.ga K "same_scene") ["scene"] (ct_same_scene K) := ok_same_scene T F_Net_copy F_Scene___init
  have F_in_net_order : Fn P w K mg base 6 (He.ga K "in_net_order") ["net", "lanes"] (ct_in_net_order K) := ok_in_net_order T F_first_missing F_Net_lanes Z_NoLane
  have F_check_deed : Fn P w K mg base 4 (He.ga K "check_deed") ["place", "deed"] (ct_check_deed K) := ok_check_deed T Z_BadDeed
  have F_do_deed : Fn P w K mg base 8 (He.ga K "do_deed") ["scene", "place", "deed"] (ct_do_deed K) := ok_do_deed T F_Net_lane F_Net_copy F_Net_cut F_in_net_order F_check_deed Z_NameTaken Z_NotWanted Z_StillWanted
  have F_do_all : Fn P w K mg base 10 (He.ga K "do_all") ["scene", "deeds"] (ct_do_all K) := ok_do_all T F_do_deed
  have F_Watch___init : FnE P w K mg base 8 (He.ma K (He.ga K "Watch") "__init__") ["self", "net", "wanted"] [.ref (He.dflAt ("Watch", some "__init__") 0 K)] (ct_Watch___init K) := ok_Watch___init T F_Net_copy F_Scene___init F_in_net_order
  have F_Watch_net : Fn P w K mg base 8 (pga K (He.ga K "Watch") "net") ["self"] (ct_Watch_net K) := ok_Watch_net T F_Net_copy
  have F_Watch_wanted : Fn P w K mg base 4 (pga K (He.ga K "Watch") "wanted") ["self"] (ct_Watch_wanted K) := ok_Watch_wanted T
  have F_Watch_told : Fn P w K mg base 4 (He.ma K (He.ga K "Watch") "told") ["self"] (ct_Watch_told K) := ok_Watch_told T
  have F_Watch___iadd : Fn P w K mg base 12 (He.ma K (He.ga K "Watch") "__iadd__") ["self", "deeds"] (ct_Watch___iadd K) := ok_Watch___iadd T F_same_scene F_do_all
  have F_law_cell : Fn P w K mg base 4 (He.ga K "_law_cell") ["_law_script", "_law_k"] (ct_law_cell K) := ok_law_cell T
  have F_law_pool : Fn P w K mg base 4 (He.ga K "_law_pool") ["_law_cell_here"] (ct_law_pool K) := ok_law_pool T
  have F_law_take : Fn P w K mg base 4 (He.ga K "_law_take") ["_law_pool_here", "_law_many_here"] (ct_law_take K) := ok_law_take T
  have F_law_stranger : Fn P w K mg base 6 (He.ga K "_law_stranger") ["_law_pool_here", "_law_names"] (ct_law_stranger K) := ok_law_stranger T F_law_take
  have F_law_many : Fn P w K mg base 6 (He.ga K "_law_many") ["_law_pool_here", "_law_many_here"] (ct_law_many K) := ok_law_many T F_law_take
  have F_law_mixed : Fn P w K mg base 6 (He.ga K "_law_mixed") ["_law_pool_here", "_law_things"] (ct_law_mixed K) := ok_law_mixed T F_law_take
  have F_law_strong_net : Fn P w K mg base 8 (He.ga K "_law_strong_net") ["_law_pool_here", "_law_most", "_law_lanes_here"] (ct_law_strong_net K) := ok_law_strong_net T F_law_take F_law_many F_law_mixed
  have F_law_built : Fn P w K mg base 8 (He.ga K "_law_built") ["_law_parts"] (ct_law_built K) := ok_law_built T F_Net___init F_Net_post F_Net_lane
  have F_law_lanes : Fn P w K mg base 4 (He.ga K "_law_lanes") ["_law_parts"] (ct_law_lanes K) := ok_law_lanes T
  have F_law_in_order : Fn P w K mg base 4 (He.ga K "_law_in_order") ["_law_parts", "_law_lanes_here"] (ct_law_in_order K) := ok_law_in_order T
  have F_law_drop : Fn P w K mg base 4 (He.ga K "_law_drop") ["_law_parts", "_law_lanes_here"] (ct_law_drop K) := ok_law_drop T
  have F_law_deed : Fn P w K mg base 8 (He.ga K "_law_deed") ["_law_pool_here", "_law_parts", "_law_wanted"] (ct_law_deed K) := ok_law_deed T F_law_take F_law_stranger F_law_lanes
  have F_law_form : Fn P w K mg base 4 (He.ga K "_law_form") ["_law_deed_here"] (ct_law_form K) := ok_law_form T
  have F_law_due : Fn P w K mg base 6 (He.ga K "_law_due") ["_law_parts", "_law_wanted", "_law_deed_here", "_law_place"] (ct_law_due K) := ok_law_due T F_law_lanes F_law_form
  have F_law_after : Fn P w K mg base 6 (He.ga K "_law_after") ["_law_parts", "_law_wanted", "_law_deed_here"] (ct_law_after K) := ok_law_after T F_law_drop
  have F_law_same : Fn P w K mg base 10 (He.ga K "_law_same") ["_law_watch", "_law_parts", "_law_wanted", "_law_deeds"] (ct_law_same K) := ok_law_same T F_Net_posts F_Net_lanes F_Net_start_of F_Net_end_of F_Watch_net F_Watch_wanted F_Watch_told F_law_lanes F_law_in_order
  have F_law_added : Fn P w K mg base 14 (He.ga K "_law_added") ["_law_watch", "_law_deeds"] (ct_law_added K) := ok_law_added T F_Watch___iadd
  have F_law_list : Fn P w K mg base 10 (He.ga K "_law_list") ["_law_pool_here", "_law_parts", "_law_wanted"] (ct_law_list K) := ok_law_list T F_law_take F_law_deed F_law_due F_law_after
  have F_law_all : Fn P w K mg base 8 (He.ga K "_law_all") ["_law_parts", "_law_wanted", "_law_deeds"] (ct_law_all K) := ok_law_all T F_law_due F_law_after
  have F_law_long : Fn P w K mg base 6 (He.ga K "_law_long") ["_law_pool_here", "_law_wanted", "_law_lane"] (ct_law_long K) := ok_law_long T F_law_take
  exact ok_law T F_Watch___init F_Watch_told F_law_cell F_law_pool F_law_strong_net F_law_built F_law_lanes F_law_same F_law_added F_law_list F_law_all F_law_long F
end
end K70
open PySem PySem.W PySem.Calls PyProof.Rows
theorem PySem.Challenge.cw_alsoshown_k70_all_or_none_holds : PySem.Challenge.rw_alsoshown_k70_all_or_none.Holds := by
  w_on; o_law
  refine HandSHeadRun.head_any (r := K70.R) (q := K70.qv) (H := K70.hk) (ob := K70.ob) (M := 14000) (loose := K70.names) (d := HandSHeadRun.topDef K70.R.prog 122) (kwd := []) K70.ob_eq
    (by kernel_rfl) (fun s => by kernel_rfl) K70.run (by kernel_rfl) (by kernel_rfl) (by kernel_rfl) (by rfl) (by first | assumption | decide +kernel) (by decide +kernel) ⟨rfl, rfl, rfl, rfl, rfl, by decide +kernel⟩ ?hw ?hc
  case hw => w_witness2
  case hc =>
    refine DL.walk_D (l := PySem.Challenge.rw_alsoshown_k70_all_or_none) (n := 63) (k := 16) (x := "_law_script") rfl (by decide) (by kernel_rfl) ⟨rfl, by decide, by decide⟩ ?F
    intro w mg fa h Y G hmg0
    obtain ⟨K, KX, c⟩ := Y
    have hmg : mg ("law" : PySem.Str) = some (.ref fa) := by
      have e : (HandSHeadRun.topDef K70.R.prog 122).name = ("law" : PySem.Str) := by kernel_rfl
      rw [← e]
      exact hmg0
    have T := K70.tx_of KX G c
    obtain ⟨fd, F⟩ := T.d_law
    have e := hmg.symm.trans T.g_law.1
    cases e
    exact ⟨K, K70.ct_law K, fd, KX, fun z ns hs => ⟨z, rfl, ns, hs, rfl, rfl⟩, fun s v => L2.FunD.bindsA (ps := ["_law_script"]) F (fun _ _ _ _ _ _ us hl => match us, hl with | [_], _ => rfl) s [v] rfl, fun base => K70.all_ok T F⟩


