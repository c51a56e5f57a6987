import PyProof.Rows.All
import Wide.All
import OpenK.AllK
import Wide.FinOn
import HandS.Base
import HandS.Call
import HandS.List
import HandS.Comp
import HandS.Dict
import HandS.Iter
import HandS.Text
import HandS.Evl
import HandS.TupAny
import KE.KeyNested
import HandS.Wide
import HandS.Steps
import HandS.Exc
import HandS.Words
import HandS.WordsExc
import PyProof.NeData
import HandS.OwnEq
import HandS.Property
import HandS.IsInst
import HandS.ExcInit
import HandS.Defaults
import KE.KOpsOwn
import PyProof.InstNe
import HandS.Head0
import HandS.ExcField
import HandS.ExcOwn
import HandS.Codes
import HandS.Conv
import HandS.Style
import KE.KStateDown
import HandS.Head1
import HandS.Head2
import HandS.HeadEnd
import HandS.HeadHook1
import HandS.HeadHook2
import HandS.EndBits
import HandS.HeadHook3
import HandS.HeadNt
import HandS.ClsMeth
import HandS.TupMul
import KE.DataCmp
import KE.DatumOrd
import HandS.DictComp
import HandS.RaiseMore
import KE.DataEq
import HandS.Finally
import KE.GoesNew
import KE.GoesMore
import OpenK.KMeth
import HandS.Small
import HandS.TupSets
import HandS.Star
import PyProof.Rows.TupDisplay
import KE.KDictCopyH
import PyProof.FactsAll.dict_2
import KE.GoesDict
import HandS.SetKeys
import HandS.GenCall
import HandS.GenList
import HandS.TryOnly
import KE.GoesEnum
import HandS.FStr
import HandS.HotCalls
import HandS.SetTxt0
import HandS.SetFor
import PyProof.StrBlock2
import HandS.CallSlots
import HandS.CallLocal
import PySem.Challenge.RW_alsoshown_k13_written_patterns_refused
set_option Elab.async false
set_option linter.all false
set_option maxRecDepth 100000
set_option maxHeartbeats 4000000
namespace DL
open PySem L2 PySem.W
def lineOk (C : Addr) (cd : ClassData) : Bool := !cd.hasDel && (cd.hasDict && (match cd.mro with
  | x :: r => x == .ref C && PySem.HandSPX.refsVE r
  | [] => false))
def slotsOk (sl : Array (Option Value)) : Bool := sl.size == 6 && sl[4]? == some (some (.builtin "ValueError.__new__"))
def errObj (C : Addr) (o : Obj) : Bool := o.cls == .type "type" && (slotsOk o.slots && (match o.data with
  | .cls cd => lineOk C cd
  | _ => false))
def oexB (K : PySem.W.Frag) (C : Addr) : Bool := (K.lookup C).any (errObj C) && (decide (findIn K (.ref C) "__setattr__" = some (some (.builtin "object.__setattr__"))) && (decide (subIn K (.ref C) (.type "BaseException") = some true) && (decide (typeIn K (.ref C) = some (.type "type")) && keepIn K (.ref C))))
def xcB (K : PySem.W.Frag) (C : Addr) : Bool := oexB K C && xfB K C
def EqT (K : PySem.W.Frag) (C : Addr) : Prop := ∀ T ∈ ["NoneType", "bool", "int", "str", "list", "tuple"], subIn K (.type T) (.ref C) = some false
structure ClsI (K : PySem.W.Frag) (C : Addr) : Prop where
  cl : Cls K C
  ha : findIn K (.ref C) "__class__" = some (some (.builtin "object.__class__"))
  hn : specialIn K (.builtin "object.__class__") "__get__" = some (some (.builtin "getset_descriptor.__get__"))
  htk : takesIn K (.builtin "object.__class__") = some true
  hm : mroIn K C (.type "object") = some true
structure Sm (K : PySem.W.Frag) (C : Addr) (m : Str) (f : Addr) : Prop where
  at_ : findIn K (.ref C) m = some (some (.ref f))
  fn : isFn K (.ref f) = true
structure Bo (K : PySem.W.Frag) (C : Addr) (op : Operator) (f : Addr) : Prop where
  first : selfFirst K C = true
  sm : Sm K C (PySem.dunder op.info.2) f
  refl : findIn K (.ref C) (dunderR op.info.2) = some none
structure BoT (K : PySem.W.Frag) (C : Addr) (op : Operator) (T : String) : Prop where
  l : ∃ fo, findIn K (.type T) (PySem.dunder op.info.2) = some fo
  r : ∃ ro, findIn K (.type T) (dunderR op.info.2) = some ro
  sub : subIn K (.type T) (.ref C) = some false
end DL
/-! DK: what the head tells of a text's defs and classes (own work). -/
namespace DL
open PySem L2 PySem.W

/-- the getter of the property m of the class at C -/
def pga (K : PySem.W.Frag) (C : Addr) (m : Str) : Addr := match recIn K (He.ma K C m) "property" with
  | some (.ref g :: _) => g
  | _ => 0
/-! the picture of a def: all that the text fixes of it -/
structure Pic where
  nm : Str
  qn : Str
  pars : Arguments
  code : FuncBody
  sco : Scope
  env : Addr × Addr
  clo : List (Str × Addr)
def picOf (f : FuncData) : Pic := ⟨f.name, f.qualname, f.params, f.body, f.scope, (f.globals, f.builtins), f.closure⟩
def asFn : Data → Option FuncData
  | .func f => some f
  | _ => none
def fnAt (K : PySem.W.Frag) (a : Addr) : Option FuncData := (K.lookup a).bind fun o => asFn o.data
theorem asFn_some {dt : Data} {f : FuncData} (h : asFn dt = some f) : dt = .func f := by
  cases dt <;> first | (cases h; rfl) | cases h
theorem fnAt_some {K : PySem.W.Frag} {a : Addr} {f : FuncData} (h : fnAt K a = some f) : ∃ o, K.lookup a = some o ∧ o.data = .func f := by
  obtain ⟨o, h1, h2⟩ := Option.bind_eq_some_iff.mp h
  exact ⟨o, h1, asFn_some h2⟩
/-- a def of the text: where it stands, its picture, its defaults -/
structure Df where
  at_ : PySem.W.Frag → Addr
  name : Str
  qual : Str
  params : Arguments
  body : List Stmt
  scope : Scope
  dfs : PySem.W.Frag → List V
def Df.pic (d : Df) : Pic := ⟨d.name, d.qual, d.params, .stmts d.body, d.scope, (mainGlobals, builtinsNs), []⟩
def Df.good (K : PySem.W.Frag) (d : Df) : Bool := keepIn K (.ref (d.at_ K)) && (fnAt K (d.at_ K)).any fun f => codeIn K f.code d.qual && (He.dflB K f.defaults (d.dfs K) && He.kwdB K f.kwdefaults [])
theorem Df.known {K : PySem.W.Frag} {d : Df} (e : (fnAt K (d.at_ K)).map picOf = some d.pic) (c : d.good K = true) : ∃ fd, FunD K d.name d.qual d.params d.body d.scope (d.dfs K) [] (d.at_ K) fd := by
  have c' := Bool.and_eq_true_iff.mp c
  cases hf : fnAt K (d.at_ K) with
  | none =>
    rw [hf] at e
    cases e
  | some f =>
    rw [hf] at e c'
    have c2 : (codeIn K f.code d.qual && (He.dflB K f.defaults (d.dfs K) && He.kwdB K f.kwdefaults [])) = true := c'.2
    have c3 := Bool.and_eq_true_iff.mp c2
    have c4 := Bool.and_eq_true_iff.mp c3.2
    obtain ⟨o, lk, hd⟩ := fnAt_some hf
    have same : f = PySem.W.fnOf d.name d.qual d.params d.body d.scope f.defaults f.kwdefaults f.doc f.pyModule f.annotations f.code f.closureTuple := by
      have e1 : picOf f = d.pic := Option.some.inj e
      have n := congrArg Pic.nm e1
      have qn := congrArg Pic.qn e1
      have ps := congrArg Pic.pars e1
      have bd := congrArg Pic.code e1
      have sc := congrArg Pic.sco e1
      have ev := congrArg Pic.env e1
      have cl := congrArg Pic.clo e1
      have g := congrArg Prod.fst ev
      have bt := congrArg Prod.snd ev
      cases f
      cases n; cases qn; cases ps; cases bd; cases sc; cases cl; cases g; cases bt
      rfl
    have lk2 : K.lookup (d.at_ K) = some ⟨o.cls, o.dict, .func f, o.slots⟩ := by
      rw [lk, ← hd]
    exact ⟨f, ⟨o.cls, o.dict, f.defaults, f.kwdefaults, f.doc, f.pyModule, f.annotations, f.code, f.closureTuple, o.slots, same, lk2, c3.1, He.dflB_ok c4.1, He.kwdB_ok c4.2⟩, c'.1⟩
abbrev Fx := PySem.W.Frag → Bool
/-- all facts and all defs of a text, looked at in one heap -/
abbrev AlY : Type := Bool × List (Option Pic)
def lookY (ex : List Fx) (fn : List Df) (K : PySem.W.Frag) : AlY := (ex.all (· K) && fn.all (Df.good K), fn.map fun d => (fnAt K (d.at_ K)).map picOf)
def dueY (fn : List Df) : AlY := (true, fn.map fun d => some d.pic)
def SaysY (ex : List Fx) (fn : List Df) (K : PySem.W.Frag) : Prop := lookY ex fn K = dueY fn
section
variable {ex : List Fx} {fn : List Df} {K : PySem.W.Frag}
theorem SaysY.both (c : SaysY ex fn K) : (∀ f ∈ ex, f K = true) ∧ ∀ d ∈ fn, Df.good K d = true := by
  have c1 : (ex.all (· K) && fn.all (Df.good K)) = true := congrArg Prod.fst c
  rw [Bool.and_eq_true, List.all_eq_true, List.all_eq_true] at c1
  exact c1
theorem SaysY.fact (c : SaysY ex fn K) (i : Nat) {f : Fx} (h : ex[i]? = some f := by rfl) : f K = true := c.both.1 f (List.mem_of_getElem? h)
theorem SaysY.def_ (c : SaysY ex fn K) (i : Nat) {d : Df} (h : fn[i]? = some d := by rfl) : ∃ fd, FunD K d.name d.qual d.params d.body d.scope (d.dfs K) [] (d.at_ K) fd := by
  refine Df.known ?_ (c.both.2 d (List.mem_of_getElem? h))
  have e := congrArg (fun z : AlY => z.2[i]?) c
  simp only [lookY, dueY, List.getElem?_map, h, Option.map_some, Option.some.injEq] at e
  exact e
end
/-! ### the facts, by Bool -/
section
variable {K : PySem.W.Frag} {C : Addr}
def fGlo (x : Str) : Fx := fun K => (He.Fa.glo x).ok K && keepIn K (.ref (He.ga K x))
def fFree (x : Str) : Fx := fun K => (He.Fa.free x).ok K
def fStr (x z : Str) : Fx := fun K => (He.Fa.str x z).ok K
def fInt (x : Str) (i : Int) : Fx := fun K => (He.Fa.int x i).ok K
def fCls (x : Str) : Fx := fun K => (He.Fa.cls x).ok K
def fMkr (x : Str) : Fx := fun K => (He.Fa.mkr x).ok K
def fNoat (x f : Str) : Fx := fun K => (He.Fa.noat x f).ok K
def fProp (x m : Str) : Fx := fun K => He.eqO (findIn K (.ref (He.ga K x)) m) (some (some (.ref (He.ma K (He.ga K x) m)))) && (He.eqO (specialIn K (.ref (He.ma K (He.ga K x) m)) "__get__") (some (some (.builtin "property.__get__"))) &&
  (decide (takesIn K (.ref (He.ma K (He.ga K x) m)) = some true) && (match recIn K (He.ma K (He.ga K x) m) "property" with
    | some (.ref _ :: _) => true
    | _ => false)))
theorem prop_ok {x m : Str} (h : fProp x m K = true) : PropOf K (He.ga K x) m (He.ma K (He.ga K x) m) (pga K (He.ga K x) m) := by
  obtain ⟨h1, h⟩ := He.ba h
  obtain ⟨h2, h⟩ := He.ba h
  obtain ⟨h3, h4⟩ := He.ba h
  refine ⟨He.eqO_ok h1, He.eqO_ok h2, of_decide_eq_true h3, ?_⟩
  unfold pga
  split at h4
  · rename_i a r q
    rw [q]
    exact ⟨r, rfl⟩
  · cases h4
def fXc (x : Str) : Fx := fun K => xcB K (He.ga K x)
def fXi (x : Str) : Fx := fun K => He.eqO (findIn K (.ref (He.ga K x)) "__init__") (some (some (.ref (He.ma K (He.ga K x) "__init__")))) && decide (typeIn K (.ref (He.ma K (He.ga K x) "__init__")) = some (.type "function"))
theorem xi_ok {x : Str} (h : fXi x K = true) : findIn K (.ref (He.ga K x)) "__init__" = some (some (.ref (He.ma K (He.ga K x) "__init__"))) ∧ typeIn K (.ref (He.ma K (He.ga K x) "__init__")) = some (.type "function") := let ⟨a, b⟩ := He.ba h; ⟨He.eqO_ok a, of_decide_eq_true b⟩
def fExm (x y : Str) (b : Bool) : Fx := fun K => (He.Fa.exm x y b).ok K
end
/-! ### words of the derivations -/
section
variable {X : Cx} {E : XK}
theorem pass_own {E₁ : Value → Shared → Prop} (hs : X.stack = X.env :: X.outer) (hf : X.env.frame = some X.env.locals) (hex : X.ex = []) (hx : X.xe = fun e s' => wpAny (model X.prog X.w) X.A (leaving X.env e) (fun _ s'' => L2.CX X.prog X.w X.outer X.H_0 X.s_0 E e s'') E₁ s') : Passes (L2.CX X.prog X.w) X E :=
  passes_call (takes_of hs hf hex hx) fun _ _ _ _ h => h
def rMulU : R2 := fun x y H Q => rI PySem.IntMulOk (fun i j => .int (i * j)) x y H Q ∨ rRep x y H Q
theorem op_mulU : OpR X (binaryOp .Mult) rMulU := OpR.or (opI fun _ _ _ _ _ _ _ hc q => PyProof.Rows.mul_int q hc) op_rep
def rInU (K : PySem.W.Frag) : R2 := fun x y H Q => rInS x y H Q ∨ rIn K false x y H Q
theorem op_inU : OpR X (compareOp .In) (rInU X.K) := op_inS.or op_in_seq
def rNiU (K : PySem.W.Frag) : R2 := fun x y H Q => rNotInS x y H Q ∨ rIn K true x y H Q
theorem op_niU : OpR X (compareOp .NotIn) (rNiU X.K) := op_notInS.or op_notIn_seq
end
end DL

/-! DK2: the head's look, from the names that a text wants alone (own work). -/
namespace DL
open PySem L2 PySem.W
/-- the addresses that are not yet in the mask m, each once -/
def freshA {α : Type} : List Addr → Nat → List Addr → (List Addr → Nat → α) → α
  | [], m, acc, k => k acc m
  | a :: r, m, acc, k => HandSHeadRun.frNat a fun b => if Nat.beq ((m >>> b) % 2) 1 then freshA r m acc k else HandSHeadRun.frNat (m + (1 <<< b)) fun m2 => freshA r m2 (b :: acc) k
/-- what these reach in n steps -/
def walkA (g : Addr → Option Obj) : Nat → Nat → List Addr → List Addr → List Addr
  | 0, _, _, all => all
  | n + 1, m, fr, all => freshA (fr.flatMap fun a => match g a with
      | some o => He.refsD o
      | none => []) m [] fun new m2 => walkA g n m2 new (all ++ new)
def rootsA (g : Addr → Option Obj) (nm : List Str) : List Addr := nm.filterMap fun x => match nsIn (He.frG g [mainGlobals]) mainGlobals x with
  | some (some (.ref a)) => some a
  | _ => none
def asZ (g : Addr → Option Obj) (nm : List Str) (n : Nat) : List Addr := freshA (rootsA g nm) ((1 <<< mainGlobals) ||| (1 <<< builtinsNs)) [] fun rs m => mainGlobals :: cStatics :: walkA g n m rs rs
def obsZG (n : Nat) (nm : List Str) (ex : List Fx) (fn : List Df) (g : Addr → Option Obj) : AlY := lookY ex fn (He.frG g (asZ g nm n))
def hookZ (n : Nat) (nm : List Str) (ex : List Fx) (fn : List Df) : PySem.W.Hook :=
  { α := AlY, obs := fun s => obsZG n nm ex fn s.heap.get?, val := fun _ => dueY fn, says := fun _ h => ∃ K : PySem.W.Frag, K.In h ∧ SaysY ex fn K,
    of := fun _ _ e => ⟨_, He.frG_in, e⟩,
    keeps := fun _ _ _ w k => w.elim fun K z => ⟨K, PySem.W.Frag.In.keeps z.1 k, z.2⟩ }
end DL

/-! DK4: facts that the head looks up, made later than DK (own work). -/
namespace DL
open PySem L2 PySem.W
end DL

/-! DK3: the head's run, its facts looked at by parts (own work). -/
namespace DL
open PySem L2 PySem.W
end DL

/-! DK5: the head's run, looked at in several runs that each keep little (own work). -/
namespace DL
open PySem L2 PySem.W HandSHeadRun
/-- what a run of the top says of its own names -/
def SeenEq (r : OpenRow) (q : Program) (M : Nat) (loose : List Str) (w : World) : Prop :=
  ∀ os : OsState, (endF (stepQ (denQ tabQ) r.prog w) M r.prog w os).map (fun s => (looksF r.prog (boot_heap w.params) s.abs, seenQ q loose (importedModules r.prog.main.body) (fun s => xlAt q [] s && recOk r.toRowW.records s) s.abs)) = some (true, openGood q loose)
/-- what a run of the top says of some facts -/
def FactEq (r : OpenRow) (n : Nat) (nm : List Str) (e : List Fx) (f : List Df) (M : Nat) (w : World) : Prop :=
  ∀ os : OsState, (endF (stepQ (denQ tabQ) r.prog w) M r.prog w os).map (fun s => obsZG n nm e f (getT s)) = some (dueY f)
theorem runEq_of {r : OpenRow} {q : Program} {n M : Nat} {nm loose : List Str} {e : List Fx} {f : List Df} {w : World} (h1 : SeenEq r q M loose w) (h2 : FactEq r n nm e f M w) :
    RunEq r q (hookZ n nm e f) (fun s => obsZG n nm e f (getT s)) M loose w := fun os => by
  obtain ⟨s, hs, x⟩ := Option.map_eq_some_iff.mp (h1 os)
  have b := h2 os
  obtain ⟨x1, x2⟩ := Prod.mk.inj x
  rw [hs] at b
  rw [hs]
  exact congrArg some (Prod.ext x1 (Prod.ext x2 (Option.some.inj b)))
end DL

/-! DK6: dicts of the module with text keys, classmethods, in what the head is asked (own work). -/
namespace DL
open PySem L2 PySem.W HandSHeadRun
/-- a dict of the module: its name, its keys -/
abbrev TbM := Str × List Str
abbrev AlTb : Type := List (Option (List (Option (Str × Int))))
def tbsOf (ts : List TbM) (K : PySem.W.Frag) : AlTb := ts.map fun t => He.dicW K (He.ga K t.1)
def tbsDue (ts : List TbM) (w : World) : AlTb := ts.map fun t => some (He.keysIn w.params t.2)
def obsT (n : Nat) (nm : List Str) (ex : List Fx) (fn : List Df) (ts : List TbM) (g : Addr → Option Obj) : AlY × AlTb := (obsZG n nm ex fn g, tbsOf ts (He.frG g (asZ g nm n)))
def hookT (n : Nat) (nm : List Str) (ex : List Fx) (fn : List Df) (ts : List TbM) : PySem.W.Hook :=
  { α := AlY × AlTb, obs := fun s => obsT n nm ex fn ts s.heap.get?, val := fun w => (dueY fn, tbsDue ts w),
    says := fun w h => ∃ K : PySem.W.Frag, K.In h ∧ SaysY ex fn K ∧ tbsOf ts K = tbsDue ts w,
    of := fun _ _ e => ⟨_, He.frG_in, congrArg Prod.fst e, congrArg Prod.snd e⟩,
    keeps := fun _ _ _ w k => w.elim fun K z => ⟨K, PySem.W.Frag.In.keeps z.1 k, z.2⟩ }
theorem obsT_eq {n : Nat} {nm : List Str} {ex : List Fx} {fn : List Df} {ts : List TbM} {g : Addr → Option Obj} {s : Shared} (h : ∀ a, g a = s.heap.get? a) : obsT n nm ex fn ts g = (hookT n nm ex fn ts).obs s :=
  congrArg (obsT n nm ex fn ts) (funext h)
def TabEq (r : OpenRow) (n : Nat) (nm : List Str) (ts : List TbM) (M : Nat) (w : World) : Prop :=
  ∀ os : OsState, (endF (stepQ (denQ tabQ) r.prog w) M r.prog w os).map (fun s => tbsOf ts (He.frG (getT s) (asZ (getT s) nm n))) = some (tbsDue ts w)
theorem runEq_tab {r : OpenRow} {q : Program} {n M : Nat} {nm loose : List Str} {e : List Fx} {f : List Df} {ts : List TbM} {w : World} (h1 : RunEq r q (hookZ n nm e f) (fun s => obsZG n nm e f (getT s)) M loose w) (h2 : TabEq r n nm ts M w) :
    RunEq r q (hookT n nm e f ts) (fun s => obsT n nm e f ts (getT s)) M loose w := fun os => by
  obtain ⟨s, hs, x⟩ := Option.map_eq_some_iff.mp (h1 os)
  have b := h2 os
  obtain ⟨x1, x2⟩ := Prod.mk.inj x
  obtain ⟨x3, x4⟩ := Prod.mk.inj x2
  rw [hs] at b
  rw [hs]
  exact congrArg some (Prod.ext x1 (Prod.ext x3 (Prod.ext x4 (Option.some.inj b))))
/-- the dict of the module at a holds texts under texts -/
structure TabS (K : PySem.W.Frag) (w : World) (a : Addr) (kvs : List (Str × Str)) : Prop where
  kd : ∃ es n, KDict K w a es n
  at_ : ∀ p ∈ kvs, ∃ t, nsIn K a p.1 = some (some (.str p.2 t))
  no : ∀ z, (∀ p ∈ kvs, p.1 ≠ z) → nsIn K a z = some none
def fTabV (x k v : Str) : Fx := fun K => match nsIn K (He.ga K x) k with
  | some (some (.str z _)) => decide (z = v)
  | _ => false
theorem tabV_ok {K : PySem.W.Frag} {x k v : Str} (h : fTabV x k v K = true) : ∃ t, nsIn K (He.ga K x) k = some (some (.str v t)) := by
  unfold fTabV at h
  split at h
  · rename_i z t e
    rw [e, of_decide_eq_true h]
    exact ⟨t, rfl⟩
  · cases h
theorem keys_none {P : Params} {z : Str} : ∀ {l : List DictEntry} {ks : List Str}, l.map He.keyOf = He.keysIn P ks → z ∉ ks → l.find? (·.key.isStr z) = none ∧ l.any (·.refKey) = false
  | [], _, _, _ => ⟨rfl, rfl⟩
  | e :: r, [], h, _ => by cases h
  | e :: r, k :: ks, h, hz => by
    have h1 : He.keyOf e :: r.map He.keyOf = some (k, PyData.keyHash P k) :: He.keysIn P ks := h
    injection h1 with h2 h3
    have ⟨i1, i2⟩ := keys_none h3 fun z => hz (List.mem_cons_of_mem _ z)
    unfold He.keyOf at h2
    split at h2
    · rename_i x t q
      have h4 := Option.some.inj h2
      obtain ⟨h5, _⟩ := Prod.mk.inj h4
      have ne : e.key.isStr z = false := by
        rw [q]
        have : x ≠ z := fun c => hz (by rw [← c, h5]; exact List.mem_cons_self)
        show (x == z) = false
        exact beq_eq_false_iff_ne.mpr this
      have nr : e.refKey = false := by
        unfold DictEntry.refKey
        rw [q]
      rw [List.find?_cons, ne, List.any_cons, nr]
      exact ⟨i1, i2⟩
    · cases h2
theorem tabS_of {K : PySem.W.Frag} {w : World} {ts : List TbM} (h : tbsOf ts K = tbsDue ts w) {i : Nat} {x : Str} {kvs : List (Str × Str)} (hi : ts[i]? = some (x, kvs.map (·.1)))
    (hv : ∀ p ∈ kvs, ∃ t, nsIn K (He.ga K x) p.1 = some (some (.str p.2 t))) : TabS K w (He.ga K x) kvs := by
  have e := congrArg (fun l : AlTb => l[i]?) h
  simp only [tbsOf, tbsDue, List.getElem?_map, hi, Option.map_some, Option.some.injEq] at e
  have kd := He.dicW_ok e
  refine ⟨kd, hv, fun z hz => ?_⟩
  obtain ⟨es, n, D⟩ := kd
  have l := D.at_
  have eq : es.toList.map He.keyOf = He.keysIn w.params (kvs.map (·.1)) := by
    unfold He.dicW at e
    rw [l] at e
    have : (match decide (("dict" : String) = "dict") && ((#[] : Array Value).isEmpty && !(He.ga K x == sysModules)) with
      | true => some (es.toList.map He.keyOf)
      | false => none) = some (He.keysIn w.params (kvs.map (·.1))) := e
    rw [D.low] at this
    exact Option.some.inj this
  obtain ⟨a, b⟩ := keys_none eq fun m => by
    obtain ⟨p, hp, e2⟩ := List.mem_map.mp m
    exact hz p hp e2
  unfold nsIn
  rw [l]
  show (match es.toList.find? (·.key.isStr z) with
    | some e => some (some e.val)
    | none => if es.toList.any (·.refKey) then none else some none) = _
  rw [a, b]
  rfl
/-- a global name alone -/
def fGloA (x : Str) : Fx := fun K => (He.Fa.glo x).ok K
/-- the def of a classmethod -/
def cga (K : PySem.W.Frag) (C : Addr) (m : Str) : Addr := He5.wf K C "classmethod" m
def fCMet (x m : Str) : Fx := fun K => He5.wrapB K (He.ga K x) "classmethod" "classmethod.__get__" m && (fnIn K (cga K (He.ga K x) m) && (readsIn K (He.ga K x) (.type "type") && He.eqO (specialIn K (.ref (He.ga K x)) "__getattribute__") (some (some (.builtin "type.__getattribute__")))))
def CMetC (K : PySem.W.Frag) (C : Addr) (m : Str) : Prop := ClX.CRead K C (.type "type") ∧ ClX.CMet K C (.type "type") m (He.ma K C m) (cga K C m)
theorem cmet_ok {K : PySem.W.Frag} {x m : Str} (h : fCMet x m K = true) : CMetC K (He.ga K x) m := by
  obtain ⟨h1, h⟩ := He.ba h
  obtain ⟨h2, h⟩ := He.ba h
  obtain ⟨h3, h4⟩ := He.ba h
  exact ⟨⟨h3, He.eqO_ok h4⟩, He5.cmet_of h1 h2⟩
end DL

namespace DL
open PySem L2 PySem.W
end DL


namespace K13
open PySem L2 DL PySem.W
abbrev top (i : Nat) : Stmt := PySem.Challenge.pw_alsoshown_k13_written_patterns_refused.main.body.getD i (.Pass ⟨0, 0, 0, 0⟩)
def clsBody : Stmt → List Stmt
  | .ClassDef (body := b) .. => b
  | _ => []
abbrev mth (i j : Nat) : Stmt := (clsBody (top i)).getD j (.Pass ⟨0, 0, 0, 0⟩)
abbrev s_in_order : Stmt := top 31
abbrev s_atom_text : Stmt := top 37
abbrev s_text_of : Stmt := top 36
abbrev s_Pattern___init : Stmt := mth 39 0
abbrev s_Pattern_text : Stmt := mth 39 2
abbrev s_sign_at : Stmt := top 21
abbrev s_expect : Stmt := top 29
abbrev s_behind_row : Stmt := top 23
abbrev s_read_name : Stmt := top 26
abbrev s_read_names : Stmt := top 27
abbrev s_read_item : Stmt := top 25
abbrev s_read_row : Stmt := top 24
abbrev s_read_group : Stmt := top 28
abbrev s_read_pattern : Stmt := top 22
abbrev s_Pattern_read : Stmt := mth 39 1
abbrev s_law_cell : Stmt := top 41
abbrev s_law_pool : Stmt := top 42
abbrev s_law_take : Stmt := top 43
abbrev s_law_names : Stmt := top 44
abbrev s_law_drawn : Stmt := top 45
abbrev s_law_in_name : Stmt := top 46
abbrev s_law_item : Stmt := top 47
abbrev s_law_after : Stmt := top 48
abbrev s_law_bracket : Stmt := top 49
abbrev s_law_goes : Stmt := top 50
abbrev s_law_place : Stmt := top 51
abbrev s_law_spoiled : Stmt := top 52
abbrev s_law_told : Stmt := top 53
abbrev s_law : Stmt := top 54
abbrev s_BadText___init : Stmt := mth 3 0
theorem sc_in_order : FnScope ["names", "name", "known"] ["names"] (defScope s_in_order) := ⟨rfl, rfl, rfl, by decide +kernel, rfl, by decide +kernel, by decide +kernel⟩
theorem sc_atom_text : FnScope ["kind", "names"] ["kind", "names"] (defScope s_atom_text) := ⟨rfl, rfl, rfl, by decide +kernel, rfl, by decide +kernel, by decide +kernel⟩
theorem sc_text_of : FnScope ["tree", "part", "told"] ["tree"] (defScope s_text_of) := ⟨rfl, rfl, rfl, by decide +kernel, rfl, by decide +kernel, by decide +kernel⟩
theorem sc_Pattern___init : FnScope ["self", "tree"] ["self", "tree"] (defScope s_Pattern___init) := ⟨rfl, rfl, rfl, by decide +kernel, rfl, by decide +kernel, by decide +kernel⟩
theorem sc_Pattern_text : FnScope ["self"] ["self"] (defScope s_Pattern_text) := ⟨rfl, rfl, rfl, by decide +kernel, rfl, by decide +kernel, by decide +kernel⟩
theorem sc_sign_at : FnScope ["text", "at"] ["text", "at"] (defScope s_sign_at) := ⟨rfl, rfl, rfl, by decide +kernel, rfl, by decide +kernel, by decide +kernel⟩
theorem sc_expect : FnScope ["text", "at", "wanted", "sign"] ["text", "at", "wanted"] (defScope s_expect) := ⟨rfl, rfl, rfl, by decide +kernel, rfl, by decide +kernel, by decide +kernel⟩
theorem sc_behind_row : FnScope ["text", "at"] ["text", "at"] (defScope s_behind_row) := ⟨rfl, rfl, rfl, by decide +kernel, rfl, by decide +kernel, by decide +kernel⟩
theorem sc_read_name : FnScope ["text", "at", "end"] ["text", "at"] (defScope s_read_name) := ⟨rfl, rfl, rfl, by decide +kernel, rfl, by decide +kernel, by decide +kernel⟩
theorem sc_read_names : FnScope ["text", "at", "kind", "name", "names"] ["text", "at"] (defScope s_read_names) := ⟨rfl, rfl, rfl, by decide +kernel, rfl, by decide +kernel, by decide +kernel⟩
theorem sc_read_item : FnScope ["text", "at", "sign", "name"] ["text", "at"] (defScope s_read_item) := ⟨rfl, rfl, rfl, by decide +kernel, rfl, by decide +kernel, by decide +kernel⟩
theorem sc_read_row : FnScope ["text", "at", "tree", "part"] ["text", "at"] (defScope s_read_row) := ⟨rfl, rfl, rfl, by decide +kernel, rfl, by decide +kernel, by decide +kernel⟩
theorem sc_read_group : FnScope ["text", "at", "tree", "other"] ["text", "at"] (defScope s_read_group) := ⟨rfl, rfl, rfl, by decide +kernel, rfl, by decide +kernel, by decide +kernel⟩
theorem sc_read_pattern : FnScope ["text", "tree", "at"] ["text"] (defScope s_read_pattern) := ⟨rfl, rfl, rfl, by decide +kernel, rfl, by decide +kernel, by decide +kernel⟩
theorem sc_Pattern_read : FnScope ["cls", "text"] ["cls", "text"] (defScope s_Pattern_read) := ⟨rfl, rfl, rfl, by decide +kernel, rfl, by decide +kernel, by decide +kernel⟩
theorem sc_law_cell : FnScope ["_law_script", "_law_k"] ["_law_script", "_law_k"] (defScope s_law_cell) := ⟨rfl, rfl, rfl, by decide +kernel, rfl, by decide +kernel, by decide +kernel⟩
theorem sc_law_pool : FnScope ["_law_cell_here", "_law_folded"] ["_law_cell_here"] (defScope s_law_pool) := ⟨rfl, rfl, rfl, by decide +kernel, rfl, by decide +kernel, by decide +kernel⟩
theorem sc_law_take : FnScope ["_law_pool_here", "_law_many", "_law_draw", "_law_mixed"] ["_law_pool_here", "_law_many"] (defScope s_law_take) := ⟨rfl, rfl, rfl, by decide +kernel, rfl, by decide +kernel, by decide +kernel⟩
theorem sc_law_names : FnScope ["_law_pool_here", "_law_many", "_law_letters", "_law_signs", "_law_word", "_law_k", "_law_kind", "_law_start", "_law_stem", "_law_place_here", "_law_told_here", "_law_names_here", "_law_sign"] ["_law_pool_here", "_law_many"] (defScope s_law_names) := ⟨rfl, rfl, rfl, by decide +kernel, rfl, by decide +kernel, by decide +kernel⟩
theorem sc_law_drawn : FnScope ["_law_pool_here", "_law_names_here", "_law_depth", "_law_kind", "_law_k", "_law_some", "_law_one", "_law_two"] ["_law_pool_here", "_law_names_here", "_law_depth"] (defScope s_law_drawn) := ⟨rfl, rfl, rfl, by decide +kernel, rfl, by decide +kernel, by decide +kernel⟩
theorem sc_law_in_name : FnScope ["_law_sign", "_law_count"] ["_law_sign", "_law_count"] (defScope s_law_in_name) := ⟨rfl, rfl, rfl, by decide +kernel, rfl, by decide +kernel, by decide +kernel⟩
theorem sc_law_item : FnScope ["_law_sign", "_law_bars"] ["_law_sign", "_law_bars"] (defScope s_law_item) := ⟨rfl, rfl, rfl, by decide +kernel, rfl, by decide +kernel, by decide +kernel⟩
theorem sc_law_after : FnScope ["_law_sign", "_law_bars"] ["_law_sign", "_law_bars"] (defScope s_law_after) := ⟨rfl, rfl, rfl, by decide +kernel, rfl, by decide +kernel, by decide +kernel⟩
theorem sc_law_bracket : FnScope ["_law_mode", "_law_sign", "_law_count"] ["_law_mode", "_law_sign", "_law_count"] (defScope s_law_bracket) := ⟨rfl, rfl, rfl, by decide +kernel, rfl, by decide +kernel, by decide +kernel⟩
theorem sc_law_goes : FnScope ["_law_mode", "_law_sign", "_law_count", "_law_bars"] ["_law_mode", "_law_sign", "_law_count", "_law_bars"] (defScope s_law_goes) := ⟨rfl, rfl, rfl, by decide +kernel, rfl, by decide +kernel, by decide +kernel⟩
theorem sc_law_place : FnScope ["_law_text", "_law_mode", "_law_count", "_law_bars", "_law_place_here", "_law_sign", "_law_before"] ["_law_text"] (defScope s_law_place) := ⟨rfl, rfl, rfl, by decide +kernel, rfl, by decide +kernel, by decide +kernel⟩
theorem sc_law_spoiled : FnScope ["_law_pool_here", "_law_text", "_law_signs", "_law_k", "_law_at", "_law_kind", "_law_sign", "_law_rest"] ["_law_pool_here", "_law_text"] (defScope s_law_spoiled) := ⟨rfl, rfl, rfl, by decide +kernel, rfl, by decide +kernel, by decide +kernel⟩
theorem sc_law_told : FnScope ["_law_text", "e"] ["_law_text"] (defScope s_law_told) := ⟨rfl, rfl, rfl, by decide +kernel, rfl, by decide +kernel, by decide +kernel⟩
theorem sc_law : FnScope ["_law_script", "_law_k", "_law_pool_here", "_law_names_here", "_law_name", "_law_text", "_law_deep", "_law_turn", "_law_due", "_law_told_here"] ["_law_script"] (defScope s_law) := ⟨rfl, rfl, rfl, by decide +kernel, rfl, by decide +kernel, by decide +kernel⟩
theorem sc_BadText___init : FnScope ["self", "place"] ["self", "place"] (defScope s_BadText___init) := ⟨rfl, rfl, rfl, by decide +kernel, rfl, by decide +kernel, by decide +kernel⟩
/-- what the top leaves -/
def exs0 : List Fx := [fFree "tuple", fFree "sorted", fFree "str", fFree "len", fGlo "atom_text", fGlo "in_order", fGlo "text_of", fGlo "sign_at", fGlo "BadText", fStr "LETTERS" "abcdefghijklmnopqrstuvwxyz", fStr "DIGITS" "0123456789", fInt "LONGEST" 8, fGlo "read_name", fGlo "read_names", fGlo "read_group", fGlo "read_item", fGlo "read_row", fGlo "expect", fGlo "behind_row", fGloA "ENDS", fTabV "ENDS" "*" "repeat", fTabV "ENDS" "?" "option", fMkr "Pattern", fGlo "read_pattern", fFree "int", fGlo "_law_take", fFree "range", fGlo "_law_drawn", fGlo "_law_in_name", fGlo "_law_bracket"]
def exs1 : List Fx := [fGlo "_law_after", fGlo "_law_item", fFree "enumerate", fGlo "_law_goes", fCMet "Pattern" "read", fGlo "Pattern", fCls "Pattern", fProp "Pattern" "text", fXc "BadText", fNoat "BadText" "place", fGlo "_law_pool", fGlo "_law_cell", fGlo "_law_names", fGlo "_law_spoiled", fGlo "_law_place", fGlo "_law_told", fFree "isinstance", fFree "list", fXi "BadText", fGlo "law", fNoat "Pattern" "tree", fExm "BadText" "BadText" true]
abbrev exs : List Fx := exs0 ++ exs1
def dfs0 : List Df := [⟨fun K => (He.ga K "in_order"), "in_order", "in_order", defArgs s_in_order, defBody s_in_order, defScope s_in_order, fun K => []⟩, ⟨fun K => (He.ga K "atom_text"), "atom_text", "atom_text", defArgs s_atom_text, defBody s_atom_text, defScope s_atom_text, fun K => []⟩, ⟨fun K => (He.ga K "text_of"), "text_of", "text_of", defArgs s_text_of, defBody s_text_of, defScope s_text_of, fun K => []⟩, ⟨fun K => (He.ma K (He.ga K "Pattern") "__init__"), "__init__", "Pattern.__init__", defArgs s_Pattern___init, defBody s_Pattern___init, defScope s_Pattern___init, fun K => []⟩, ⟨fun K => (pga K (He.ga K "Pattern") "text"), "text", "Pattern.text", defArgs s_Pattern_text, defBody s_Pattern_text, defScope s_Pattern_text, fun K => []⟩, ⟨fun K => (He.ga K "sign_at"), "sign_at", "sign_at", defArgs s_sign_at, defBody s_sign_at, defScope s_sign_at, fun K => []⟩, ⟨fun K => (He.ga K "expect"), "expect", "expect", defArgs s_expect, defBody s_expect, defScope s_expect, fun K => []⟩, ⟨fun K => (He.ga K "behind_row"), "behind_row", "behind_row", defArgs s_behind_row, defBody s_behind_row, defScope s_behind_row, fun K => []⟩, ⟨fun K => (He.ga K "read_name"), "read_name", "read_name", defArgs s_read_name, defBody s_read_name, defScope s_read_name, fun K => []⟩, ⟨fun K => (He.ga K "read_names"), "read_names", "read_names", defArgs s_read_names, defBody s_read_names, defScope s_read_names, fun K => []⟩, ⟨fun K => (He.ga K "read_item"), "read_item", "read_item", defArgs s_read_item, defBody s_read_item, defScope s_read_item, fun K => []⟩, ⟨fun K => (He.ga K "read_row"), "read_row", "read_row", defArgs s_read_row, defBody s_read_row, defScope s_read_row, fun K => []⟩, ⟨fun K => (He.ga K "read_group"), "read_group", "read_group", defArgs s_read_group, defBody s_read_group, defScope s_read_group, fun K => []⟩, ⟨fun K => (He.ga K "read_pattern"), "read_pattern", "read_pattern", defArgs s_read_pattern, defBody s_read_pattern, defScope s_read_pattern, fun K => []⟩, ⟨fun K => (cga K (He.ga K "Pattern") "read"), "read", "Pattern.read", defArgs s_Pattern_read, defBody s_Pattern_read, defScope s_Pattern_read, fun K => []⟩, ⟨fun K => (He.ga K "_law_cell"), "_law_cell", "_law_cell", defArgs s_law_cell, defBody s_law_cell, defScope s_law_cell, fun K => []⟩, ⟨fun K => (He.ga K "_law_pool"), "_law_pool", "_law_pool", defArgs s_law_pool, defBody s_law_pool, defScope s_law_pool, fun K => []⟩, ⟨fun K => (He.ga K "_law_take"), "_law_take", "_law_take", defArgs s_law_take, defBody s_law_take, defScope s_law_take, fun K => []⟩, ⟨fun K => (He.ga K "_law_names"), "_law_names", "_law_names", defArgs s_law_names, defBody s_law_names, defScope s_law_names, fun K => []⟩, ⟨fun K => (He.ga K "_law_drawn"), "_law_drawn", "_law_drawn", defArgs s_law_drawn, defBody s_law_drawn, defScope s_law_drawn, fun K => []⟩, ⟨fun K => (He.ga K "_law_in_name"), "_law_in_name", "_law_in_name", defArgs s_law_in_name, defBody s_law_in_name, defScope s_law_in_name, fun K => []⟩, ⟨fun K => (He.ga K "_law_item"), "_law_item", "_law_item", defArgs s_law_item, defBody s_law_item, defScope s_law_item, fun K => []⟩, ⟨fun K => (He.ga K "_law_after"), "_law_after", "_law_after", defArgs s_law_after, defBody s_law_after, defScope s_law_after, fun K => []⟩, ⟨fun K => (He.ga K "_law_bracket"), "_law_bracket", "_law_bracket", defArgs s_law_bracket, defBody s_law_bracket, defScope s_law_bracket, fun K => []⟩, ⟨fun K => (He.ga K "_law_goes"), "_law_goes", "_law_goes", defArgs s_law_goes, defBody s_law_goes, defScope s_law_goes, fun K => []⟩, ⟨fun K => (He.ga K "_law_place"), "_law_place", "_law_place", defArgs s_law_place, defBody s_law_place, defScope s_law_place, fun K => []⟩, ⟨fun K => (He.ga K "_law_spoiled"), "_law_spoiled", "_law_spoiled", defArgs s_law_spoiled, defBody s_law_spoiled, defScope s_law_spoiled, fun K => []⟩, ⟨fun K => (He.ga K "_law_told"), "_law_told", "_law_told", defArgs s_law_told, defBody s_law_told, defScope s_law_told, fun K => []⟩, ⟨fun K => (He.ga K "law"), "law", "law", defArgs s_law, defBody s_law, defScope s_law, fun K => []⟩, ⟨fun K => (He.ma K (He.ga K "BadText") "__init__"), "__init__", "BadText.__init__", defArgs s_BadText___init, defBody s_BadText___init, defScope s_BadText___init, fun K => []⟩]
abbrev dfs : List Df := dfs0
abbrev tbs : List TbM := [("ENDS", ["*", "?"])]
def names0 : List Str := ["_wall", "ShowError", "BadText", "BadNumber", "Machine", "made_machine", "read_tree", "crossed", "accepts", "LETTERS", "DIGITS", "LONGEST", "is_name", "is_whole", "is_count", "are_names", "ENDS", "sign_at", "read_pattern", "behind_row", "read_row", "read_item", "read_name", "read_names", "read_group", "expect", "in_order", "joined", "opposite", "tree_names"]
def names1 : List Str := ["text_of", "atom_text", "Pattern", "_law_cell", "_law_pool", "_law_take", "_law_names", "_law_drawn", "_law_in_name", "_law_item", "_law_after", "_law_bracket", "_law_goes", "_law_place", "_law_spoiled", "_law_told"]
abbrev names : List Str := names0 ++ names1
abbrev R : PySem.W.OpenRow := PySem.W.OpenLaw.row PySem.Challenge.rw_alsoshown_k13_written_patterns_refused
abbrev qv : Program := view R.prog [54]
def rts0 : List Str := ["in_order", "atom_text", "text_of", "Pattern", "sign_at", "expect", "behind_row", "read_name", "read_names", "read_item", "read_row", "read_group", "read_pattern", "_law_cell", "_law_pool", "_law_take", "_law_names", "_law_drawn", "_law_in_name", "_law_item", "_law_after", "_law_bracket", "_law_goes", "_law_place", "_law_spoiled", "_law_told", "law", "BadText", "LETTERS", "DIGITS"]
def rts1 : List Str := ["LONGEST", "ENDS"]
abbrev rts : List Str := rts0 ++ rts1
abbrev hk : PySem.W.Hook := hookT 5 rts exs dfs tbs
def ob (s : PySem.W.SharedT) : AlY × AlTb := obsT 5 rts exs dfs tbs (HandSHeadRun.getT s)
theorem ob_eq (s : PySem.W.SharedT) : ob s = hk.obs s.abs := obsT_eq (HandSHeadRun.getT_eq s)
theorem seen0 (w : World) : SeenEq R qv 14000 names (w.withFollow "special-get-raises" false) := by
  intro os
  kernel_rfl
theorem fact0a (w : World) : FactEq R 5 rts (exs0 ++ exs1) (dfs0) 14000 (w.withFollow "special-get-raises" false) := by
  intro os
  kernel_rfl
theorem run0z (w : World) : HandSHeadRun.RunEq R qv (hookZ 5 rts (exs0 ++ exs1) (dfs0)) (fun s => obsZG 5 rts (exs0 ++ exs1) (dfs0) (HandSHeadRun.getT s)) 14000 names (w.withFollow "special-get-raises" false) := by
  have h := fact0a w
  try simp only [List.append_assoc, List.append_nil, List.nil_append] at h
  refine runEq_of (seen0 w) ?_
  try simp only [List.append_assoc, List.append_nil, List.nil_append]
  exact h
theorem tab0 (w : World) : TabEq R 5 rts tbs 14000 (w.withFollow "special-get-raises" false) := by
  intro os
  kernel_rfl
theorem run0 (w : World) : HandSHeadRun.RunEq R qv hk ob 14000 names (w.withFollow "special-get-raises" false) := runEq_tab (run0z w) (tab0 w)
theorem seen1 (w : World) : SeenEq R qv 14000 names (w.withFollow "special-get-raises" true) := by
  intro os
  kernel_rfl
theorem fact1a (w : World) : FactEq R 5 rts (exs0 ++ exs1) (dfs0) 14000 (w.withFollow "special-get-raises" true) := by
  intro os
  kernel_rfl
theorem run1z (w : World) : HandSHeadRun.RunEq R qv (hookZ 5 rts (exs0 ++ exs1) (dfs0)) (fun s => obsZG 5 rts (exs0 ++ exs1) (dfs0) (HandSHeadRun.getT s)) 14000 names (w.withFollow "special-get-raises" true) := by
  have h := fact1a w
  try simp only [List.append_assoc, List.append_nil, List.nil_append] at h
  refine runEq_of (seen1 w) ?_
  try simp only [List.append_assoc, List.append_nil, List.nil_append]
  exact h
theorem tab1 (w : World) : TabEq R 5 rts tbs 14000 (w.withFollow "special-get-raises" true) := by
  intro os
  kernel_rfl
theorem run1 (w : World) : HandSHeadRun.RunEq R qv hk ob 14000 names (w.withFollow "special-get-raises" true) := runEq_tab (run1z w) (tab1 w)
theorem run (w : World) : HandSHeadRun.RunEq R qv hk ob 14000 names w := PySem.W.byRow2 "special-get-raises" (P := fun w => HandSHeadRun.RunEq R qv hk ob 14000 names w) run0 run1 w
end K13

/-! DA: a logic of data over the readings: frozen data, views, cells (own work). -/
namespace DL
open PySem L2

/-- data -/
inductive D where
  | non | bl (b : Bool) | int (i : Int) | str (s : Str)
  | tup (xs : List D) | lst (xs : List D) | dic (kvs : List (Key × D)) | dit (kvs : List (List Key × D))
  | ins (C : Addr) (fs : List (Str × D)) | ty (n : String) | adr (a : Addr)
  | din (w : World) (kvs : List (NestedKey × D))

/-! ### dicts whose keys are tuples of any depth -/
/-- an entry as it lies in the dict's object -/
def entN (w : World) (q : NestedKey × Addr × Value) : DictEntry := ⟨q.1.hash w, .ref q.2.1, q.2.2⟩
/-- the dict at a: its keys (each at its address), its values -/
def DnO (w : World) (a : Addr) (xs : List (NestedKey × Addr × V)) : HO := .ext fun h => xs.length ≤ sizeLine ∧ (a == sysModules) = false ∧ ∃ qs : List (NestedKey × Addr × Value),
  Paired (fun p q => p.1 = q.1 ∧ p.2.1 = q.2.1 ∧ RelV p.2.2 q.2.2) xs qs ∧ ∃ o es ep, h.get? a = some o ∧ o.ExactDict ∧ o.data = .dict es ep ∧ es.toList = qs.map (entN w) ∧ (qs.map (·.1)).Nodup
mutual
/-- a thing that is the key -/
def RkN (K : PySem.W.Frag) (F : Hp) : NestedKey → V → Prop
  | .none, v => v = .non
  | .num i, v => v = .int i
  | .text s, v => v = .str s
  | .tup ks, v => ∃ a xs, v = .ref a ∧ SqT K F a xs ∧ RkL K F ks xs
def RkL (K : PySem.W.Frag) (F : Hp) : List NestedKey → List V → Prop
  | [], xs => xs = []
  | k :: ks, xs => ∃ x ys, xs = x :: ys ∧ RkN K F k x ∧ RkL K F ks ys
end

mutual
def Rp (K : PySem.W.Frag) (F : Hp) : D → V → Prop
  | .non, v => v = .non
  | .bl b, v => v = .bl b
  | .int i, v => v = .int i
  | .str s, v => v = .str s
  | .ty n, v => v = .ty n
  | .adr a, v => v = .ref a
  | .tup ds, v => ∃ a xs, v = .ref a ∧ SqT K F a xs ∧ RpL K F ds xs
  | .lst ds, v => ∃ a xs, v = .ref a ∧ Rd F a (.lst xs) ∧ RpL K F ds xs
  | .dic ds, v => ∃ a xs, v = .ref a ∧ Rd F a (.dK xs) ∧ RpK K F ds xs
  | .dit ds, v => ∃ a xs, v = .ref a ∧ Rd F a (.dT xs) ∧ RpT K F ds xs
  | .ins C ds, v => ∃ a dx xs, v = .ref a ∧ Rd F a (.ins C dx xs) ∧ RpF K F ds xs
  | .din w ds, v => ∃ a xs, v = .ref a ∧ Rd F a (DnO w a xs) ∧ RpN K F ds xs
def RpN (K : PySem.W.Frag) (F : Hp) : List (NestedKey × D) → List (NestedKey × Addr × V) → Prop
  | [], xs => xs = []
  | (k, d) :: ds, xs => ∃ b x ys, xs = (k, b, x) :: ys ∧ (RkN K F k (.ref b) ∧ k.depth ≤ 8) ∧ Rp K F d x ∧ RpN K F ds ys
def RpL (K : PySem.W.Frag) (F : Hp) : List D → List V → Prop
  | [], xs => xs = []
  | d :: ds, xs => ∃ x ys, xs = x :: ys ∧ Rp K F d x ∧ RpL K F ds ys
def RpK (K : PySem.W.Frag) (F : Hp) : List (Key × D) → List (Key × V) → Prop
  | [], xs => xs = []
  | (k, d) :: ds, xs => ∃ x ys, xs = (k, x) :: ys ∧ Rp K F d x ∧ RpK K F ds ys
def RpT (K : PySem.W.Frag) (F : Hp) : List (List Key × D) → List (List Key × V) → Prop
  | [], xs => xs = []
  | (k, d) :: ds, xs => ∃ x ys, xs = (k, x) :: ys ∧ Rp K F d x ∧ RpT K F ds ys
def RpF (K : PySem.W.Frag) (F : Hp) : List (Str × D) → List (Str × V) → Prop
  | [], xs => xs = []
  | (k, d) :: ds, xs => ∃ x ys, xs = (k, x) :: ys ∧ Rp K F d x ∧ RpF K F ds ys
end


def isfz : HO → Bool
  | .frz _ _ => true
  | _ => false
/-- nothing of F is locked -/
def Nz (F : Hp) : Prop := ∀ a u, F a = some u → isfz u = false
/-- what a loop may lock -/
def lk : HO → Bool
  | .dK _ => true
  | .dT _ => true
  | .lst _ => true
  | .ext _ => true
  | _ => false
/-- all that F says may be read in H -/
def Exz (F H : Hp) : Prop := ∀ a u, F a = some u → H a = some u ∨ (lk u = true ∧ ∃ o, H a = some (.frz o u))
theorem exz_rd {F H : Hp} (e : Exz F H) {a : Addr} {u : HO} (h : F a = some u) : Rd H a u := by
  rcases e a u h with q | ⟨_, o, q⟩
  · exact .inl q
  · exact .inr ⟨o, q⟩
/-- what is never locked stands as it is -/
theorem Exz.at {F H : Hp} (e : Exz F H) {a : Addr} {u : HO} (h : F a = some u) (k : lk u = false) : H a = some u := by
  rcases e a u h with q | ⟨k2, _⟩
  · exact q
  · rw [k] at k2
    cases k2
/-- all of B stands in H as it is -/
def Sub (B H : Hp) : Prop := ∀ a o, B a = some o → H a = some o
theorem Sub.refl (H : Hp) : Sub H H := fun _ _ h => h
theorem Sub.trans {F G H : Hp} (a : Sub F G) (b : Sub G H) : Sub F H := fun x u h => b x u (a x u h)
theorem Sub.exz {B H : Hp} (e : Sub B H) : Exz B H := fun a u h => .inl (e _ _ h)
theorem Sub.new {H : Hp} {p : Addr} {o : HO} (h : H p = none) : Sub H (upd H p o) := fun a u e => by
  rw [upd_ne (ne_of_none e h)]
  exact e
theorem Sub.free {F H : Hp} (e : Sub F H) {a : Addr} (h : H a = none) : F a = none := by
  cases q : F a with
  | none => rfl
  | some o =>
    rw [e a o q] at h
    cases h
theorem rd_ne {H : Hp} {a : Addr} {u : HO} (h : Rd H a u) : H a ≠ none := by
  rcases h with h | ⟨o, h⟩ <;> rw [h] <;> exact fun q => by cases q
theorem Exz.free {F H : Hp} (e : Exz F H) {a : Addr} (h : H a = none) : F a = none := by
  cases q : F a with
  | none => rfl
  | some o => exact absurd h (rd_ne (exz_rd e q))
theorem Exz.rd {F H : Hp} (e : Exz F H) (n : Nz F) {a : Addr} {u : HO} (h : Rd F a u) : Rd H a u := by
  rcases h with h | ⟨o, h⟩
  · exact exz_rd e h
  · have := n a _ h
    cases this
theorem Exz.sub {F G H : Hp} (a : Exz F G) (b : Sub G H) : Exz F H := fun x u h => by
  rcases a x u h with q | ⟨k, o, q⟩
  · exact .inl (b _ _ q)
  · exact .inr ⟨k, o, b _ _ q⟩
theorem sqT_mono {K : PySem.W.Frag} {F H : Hp} {a : Addr} {xs : List V} (e : Exz F H) (n : Nz F) (h : SqT K F a xs) : SqT K H a xs := by
  rcases h with h | h
  · exact .inl (e.rd n h)
  · exact .inr h
section
variable {K : PySem.W.Frag} {F G : Hp}
mutual
theorem RkN.mono (e : Exz F G) (n : Nz F) : ∀ (k : NestedKey) (v : V), RkN K F k v → RkN K G k v
  | .none, _, h => h
  | .num _, _, h => h
  | .text _, _, h => h
  | .tup ks, v, h => by
    obtain ⟨a, xs, e1, h1, h2⟩ := h
    exact ⟨a, xs, e1, sqT_mono e n h1, RkL.mono e n ks xs h2⟩
theorem RkL.mono (e : Exz F G) (n : Nz F) : ∀ (ks : List NestedKey) (xs : List V), RkL K F ks xs → RkL K G ks xs
  | [], _, h => h
  | k :: ks, xs, h => by
    obtain ⟨x, ys, e1, h1, h2⟩ := h
    exact ⟨x, ys, e1, RkN.mono e n k x h1, RkL.mono e n ks ys h2⟩
end
mutual
theorem Rp.mono (e : Exz F G) (n : Nz F) : ∀ (d : D) (v : V), Rp K F d v → Rp K G d v
  | .non, _, h => h
  | .bl _, _, h => h
  | .int _, _, h => h
  | .str _, _, h => h
  | .ty _, _, h => h
  | .adr _, _, h => h
  | .tup ds, v, h => by
    obtain ⟨a, xs, e1, h1, h2⟩ := h
    exact ⟨a, xs, e1, sqT_mono e n h1, RpL.mono e n ds xs h2⟩
  | .lst ds, v, h => by
    obtain ⟨a, xs, e1, h1, h2⟩ := h
    exact ⟨a, xs, e1, e.rd n h1, RpL.mono e n ds xs h2⟩
  | .dic ds, v, h => by
    obtain ⟨a, xs, e1, h1, h2⟩ := h
    exact ⟨a, xs, e1, e.rd n h1, RpK.mono e n ds xs h2⟩
  | .dit ds, v, h => by
    obtain ⟨a, xs, e1, h1, h2⟩ := h
    exact ⟨a, xs, e1, e.rd n h1, RpT.mono e n ds xs h2⟩
  | .ins C ds, v, h => by
    obtain ⟨a, dx, xs, e1, h1, h2⟩ := h
    exact ⟨a, dx, xs, e1, e.rd n h1, RpF.mono e n ds xs h2⟩
  | .din w ds, v, h => by
    obtain ⟨a, xs, e1, h1, h2⟩ := h
    exact ⟨a, xs, e1, e.rd n h1, RpN.mono e n ds xs h2⟩
theorem RpN.mono (e : Exz F G) (n : Nz F) : ∀ (ds : List (NestedKey × D)) (xs : List (NestedKey × Addr × V)), RpN K F ds xs → RpN K G ds xs
  | [], _, h => h
  | (k, d) :: ds, xs, h => by
    obtain ⟨b, x, ys, e1, h0, h1, h2⟩ := h
    exact ⟨b, x, ys, e1, ⟨RkN.mono e n k _ h0.1, h0.2⟩, Rp.mono e n d x h1, RpN.mono e n ds ys h2⟩
theorem RpL.mono (e : Exz F G) (n : Nz F) : ∀ (ds : List D) (xs : List V), RpL K F ds xs → RpL K G ds xs
  | [], _, h => h
  | d :: ds, xs, h => by
    obtain ⟨x, ys, e1, h1, h2⟩ := h
    exact ⟨x, ys, e1, Rp.mono e n d x h1, RpL.mono e n ds ys h2⟩
theorem RpK.mono (e : Exz F G) (n : Nz F) : ∀ (ds : List (Key × D)) (xs : List (Key × V)), RpK K F ds xs → RpK K G ds xs
  | [], _, h => h
  | (k, d) :: ds, xs, h => by
    obtain ⟨x, ys, e1, h1, h2⟩ := h
    exact ⟨x, ys, e1, Rp.mono e n d x h1, RpK.mono e n ds ys h2⟩
theorem RpT.mono (e : Exz F G) (n : Nz F) : ∀ (ds : List (List Key × D)) (xs : List (List Key × V)), RpT K F ds xs → RpT K G ds xs
  | [], _, h => h
  | (k, d) :: ds, xs, h => by
    obtain ⟨x, ys, e1, h1, h2⟩ := h
    exact ⟨x, ys, e1, Rp.mono e n d x h1, RpT.mono e n ds ys h2⟩
theorem RpF.mono (e : Exz F G) (n : Nz F) : ∀ (ds : List (Str × D)) (xs : List (Str × V)), RpF K F ds xs → RpF K G ds xs
  | [], _, h => h
  | (k, d) :: ds, xs, h => by
    obtain ⟨x, ys, e1, h1, h2⟩ := h
    exact ⟨x, ys, e1, Rp.mono e n d x h1, RpF.mono e n ds ys h2⟩
end
end

/-! ### worlds -/
/-- what may be read of B and F together -/
def uni (B F : Hp) : Hp := fun a => match F a with
  | some o => some o
  | none => match B a with
    | some (.frz _ u) => if lk u then some u else none
    | x => x
inductive W where
  | val (d : D) | vw (d : D)
def WOk (K : PySem.W.Frag) (B F : Hp) (v : V) : W → Prop
  | .val d => Rp K F d v
  | .vw d => Rp K (uni B F) d v
inductive Nd where
  | lst (ds : List D) | dic (ds : List (Key × D)) | dit (ds : List (List Key × D)) | ldic (o : Obj) (xs : List (Key × V)) (ds : List (Key × D)) | ins (C : Addr) (ds : List (Str × D)) | xd (ds : List (Str × D))
  | din (w : World) (ds : List (NestedKey × D))
def NdOk (K : PySem.W.Frag) (F H : Hp) (a : Addr) : Nd → Prop
  | .lst ds => ∃ xs, H a = some (.lst xs) ∧ RpL K F ds xs
  | .dic ds => ∃ xs, H a = some (.dK xs) ∧ RpK K F ds xs
  | .dit ds => ∃ xs, H a = some (.dT xs) ∧ RpT K F ds xs
  | .ldic o xs ds => H a = some (.frz o (.dK xs)) ∧ RpK K F ds xs
  | .ins C ds => ∃ dx xs, H a = some (.ins C dx xs) ∧ RpF K F ds xs
  | .xd ds => ∃ xs, H a = some (.xd xs) ∧ RpF K F ds xs
  | .din w ds => ∃ xs, H a = some (DnO w a xs) ∧ RpN K F ds xs
abbrev Cells := List (Addr × Nd)
/-- F has grown, off B -/
structure Gr (B F F' : Hp) : Prop where
  sub : Sub F F'
  off : ∀ a, F a = none → B a ≠ none → F' a = none
theorem Gr.refl (B F : Hp) : Gr B F F := ⟨Sub.refl F, fun _ h _ => h⟩
theorem Gr.trans {B F G H : Hp} (a : Gr B F G) (b : Gr B G H) : Gr B F H := ⟨a.sub.trans b.sub, fun x h n => b.off x (a.off x h n) n⟩
/-- the state by data, over the frozen F: the slots, the cells, what is held on the way -/
structure EnF (K : PySem.W.Frag) (B F : Hp) (ro : List (Option W)) (ka : Cells) (ta : List (V × W)) (sg : L2.St) (H : Hp) : Prop where
  nz : Nz F
  fz : Exz F H
  fr : Sub B H
  nd : (ka.map (·.1)).Nodup
  ce : ∀ p ∈ ka, F p.1 = none ∧ B p.1 = none ∧ NdOk K F H p.1 p.2
  ln : sg.length = ro.length
  sl : ∀ (i : Nat) (w : W), ro[i]? = some (some w) → ∃ v, sg[i]? = some (some v) ∧ WOk K B F v w
  tm : ∀ p ∈ ta, WOk K B F p.1 p.2
def En (K : PySem.W.Frag) (B F0 : Hp) (ro : List (Option W)) (ka : Cells) (ta : List (V × W)) (sg : L2.St) (H : Hp) : Prop :=
  ∃ F, Gr B F0 F ∧ EnF K B F ro ka ta sg H

theorem uni_nz {B F : Hp} (n : Nz F) : Nz (uni B F) := fun a u h => by
  unfold uni at h
  split at h
  · rename_i o q
    exact n a u (q.trans h)
  · split at h
    · rename_i ob x q
      split at h
      · rename_i hx
        cases h
        cases u <;> first | rfl | cases hx
      · cases h
    · rename_i x q
      cases u with
      | frz ob z => exact absurd h (q ob z)
      | _ => rfl
theorem uni_exz {B F H : Hp} (fz : Exz F H) (fr : Sub B H) : Exz (uni B F) H := fun a u h => by
  unfold uni at h
  split at h
  · rename_i o q
    exact fz a u (q.trans h)
  · split at h
    · rename_i ob x q
      split at h
      · rename_i hx
        cases h
        exact .inr ⟨hx, ob, fr _ _ q⟩
      · cases h
    · exact .inl (fr _ _ h)
theorem uni_of {B F : Hp} {a : Addr} {u : HO} (h : F a = some u) : uni B F a = some u := by
  unfold uni
  rw [h]
theorem uni_sub {B F : Hp} : Sub F (uni B F) := fun _ _ h => uni_of h
theorem uni_gr {B F F' : Hp} (g : Gr B F F') : Sub (uni B F) (uni B F') := fun a u h => by
  unfold uni at h ⊢
  cases q : F a with
  | some o =>
    rw [q] at h
    rw [g.sub a o q]
    exact h
  | none =>
    rw [q] at h
    have hb : B a ≠ none := fun z => by
      rw [z] at h
      cases h
    rw [g.off a q hb]
    exact h
theorem wok_gr {K : PySem.W.Frag} {B F F' : Hp} (n : Nz F) (g : Gr B F F') {v : V} {w : W} (h : WOk K B F v w) : WOk K B F' v w := by
  cases w with
  | val d => exact Rp.mono g.sub.exz n d v h
  | vw d => exact Rp.mono (uni_gr g).exz (uni_nz n) d v h
/-- frozen data may be viewed -/
theorem wok_vw {K : PySem.W.Frag} {B F : Hp} (n : Nz F) {v : V} {d : D} (h : WOk K B F v (.val d)) : WOk K B F v (.vw d) := Rp.mono uni_sub.exz n d v h
theorem ndok_gr {K : PySem.W.Frag} {B F F' H : Hp} (n : Nz F) (g : Gr B F F') {a : Addr} {x : Nd} (h : NdOk K F H a x) : NdOk K F' H a x := by
  cases x with
  | lst ds => obtain ⟨xs, e, r⟩ := h; exact ⟨xs, e, RpL.mono g.sub.exz n _ _ r⟩
  | dic ds => obtain ⟨xs, e, r⟩ := h; exact ⟨xs, e, RpK.mono g.sub.exz n _ _ r⟩
  | dit ds => obtain ⟨xs, e, r⟩ := h; exact ⟨xs, e, RpT.mono g.sub.exz n _ _ r⟩
  | ldic o xs ds => obtain ⟨e, r⟩ := h; exact ⟨e, RpK.mono g.sub.exz n _ _ r⟩
  | ins C ds => obtain ⟨dx, xs, e, r⟩ := h; exact ⟨dx, xs, e, RpF.mono g.sub.exz n _ _ r⟩
  | xd ds => obtain ⟨xs, e, r⟩ := h; exact ⟨xs, e, RpF.mono g.sub.exz n _ _ r⟩
  | din w ds => obtain ⟨xs, e, r⟩ := h; exact ⟨xs, e, RpN.mono g.sub.exz n _ _ r⟩
/-- the address where a node stands is taken -/
theorem ndok_ne {K : PySem.W.Frag} {F H : Hp} {a : Addr} {x : Nd} (h : NdOk K F H a x) : H a ≠ none := by
  cases x with
  | lst ds => obtain ⟨xs, e, r⟩ := h; rw [e]; exact fun q => by cases q
  | dic ds => obtain ⟨xs, e, r⟩ := h; rw [e]; exact fun q => by cases q
  | dit ds => obtain ⟨xs, e, r⟩ := h; rw [e]; exact fun q => by cases q
  | ldic o xs ds => obtain ⟨e, r⟩ := h; rw [e]; exact fun q => by cases q
  | ins C ds => obtain ⟨dx, xs, e, r⟩ := h; rw [e]; exact fun q => by cases q
  | xd ds => obtain ⟨xs, e, r⟩ := h; rw [e]; exact fun q => by cases q
  | din w ds => obtain ⟨xs, e, r⟩ := h; rw [e]; exact fun q => by cases q
theorem ndok_at {K : PySem.W.Frag} {F H H' : Hp} {a : Addr} {x : Nd} (e : H' a = H a) (h : NdOk K F H a x) : NdOk K F H' a x := by
  cases x with
  | lst ds => obtain ⟨xs, q, r⟩ := h; exact ⟨xs, e.trans q, r⟩
  | dic ds => obtain ⟨xs, q, r⟩ := h; exact ⟨xs, e.trans q, r⟩
  | dit ds => obtain ⟨xs, q, r⟩ := h; exact ⟨xs, e.trans q, r⟩
  | ldic o xs ds => obtain ⟨q, r⟩ := h; exact ⟨e.trans q, r⟩
  | ins C ds => obtain ⟨dx, xs, q, r⟩ := h; exact ⟨dx, xs, e.trans q, r⟩
  | xd ds => obtain ⟨xs, q, r⟩ := h; exact ⟨xs, e.trans q, r⟩
  | din w ds => obtain ⟨xs, q, r⟩ := h; exact ⟨xs, e.trans q, r⟩
section
variable {K : PySem.W.Frag} {B F F' F0 : Hp} {ro : List (Option W)} {ka : Cells} {ta : List (V × W)} {sg : L2.St} {H : Hp}
/-- a new object is laid as frozen data -/
theorem EnF.lay (e : EnF K B F ro ka ta sg H) {p : Addr} {o : HO} (hp : H p = none) (hn : isfz o = false) : EnF K B (upd F p o) ro ka ta sg (upd H p o) ∧ Gr B F (upd F p o) := by
  have fp : F p = none := e.fz.free hp
  have bp : B p = none := e.fr.free hp
  have g : Gr B F (upd F p o) := ⟨Sub.new fp, fun a h1 h2 => by
    have ne : a ≠ p := fun q => h2 (q ▸ bp)
    rw [upd_ne ne]
    exact h1⟩
  refine ⟨⟨fun a u h => ?_, fun a u h => ?_, fun a u h => ?_, e.nd, fun q hq => ?_, e.ln, fun i w h => ?_, fun q hq => wok_gr e.nz g (e.tm q hq)⟩, g⟩
  · by_cases ha : a = p
    · subst ha; rw [upd_same] at h; cases h; exact hn
    · rw [upd_ne ha] at h; exact e.nz a u h
  · by_cases ha : a = p
    · subst ha; rw [upd_same] at h; cases h; exact .inl upd_same
    · rw [upd_ne ha] at h; exact e.fz.sub (Sub.new hp) a u h
  · have ha : a ≠ p := ne_of_none h bp
    rw [upd_ne ha]; exact e.fr a u h
  · obtain ⟨h1, h2, h3⟩ := e.ce q hq
    have nq : q.1 ≠ p := fun z => ndok_ne h3 (z ▸ hp)
    refine ⟨by rw [upd_ne nq]; exact h1, h2, ndok_at (upd_ne nq) (ndok_gr e.nz g h3)⟩
  · obtain ⟨v, h1, h2⟩ := e.sl i w h
    exact ⟨v, h1, wok_gr e.nz g h2⟩
/-- a new object is laid as a cell -/
theorem EnF.cell (e : EnF K B F ro ka ta sg H) {p : Addr} {o : HO} (hp : H p = none) {n : Nd} (hn : NdOk K F (upd H p o) p n) : EnF K B F ro (ka ++ [(p, n)]) ta sg (upd H p o) := by
  refine ⟨e.nz, e.fz.sub (Sub.new hp), e.fr.trans (Sub.new hp), ?_, fun q hq => ?_, e.ln, e.sl, e.tm⟩
  · rw [List.map_append, List.nodup_append]
    refine ⟨e.nd, by simp, fun a ha b hb => ?_⟩
    obtain ⟨q, hq, rfl⟩ := List.mem_map.mp ha
    simp at hb
    subst hb
    exact fun z => ndok_ne (e.ce q hq).2.2 (z ▸ hp)
  · rcases List.mem_append.mp hq with hq | hq
    · obtain ⟨h1, h2, h3⟩ := e.ce q hq
      have nq : q.1 ≠ p := fun z => ndok_ne h3 (z ▸ hp)
      exact ⟨h1, h2, ndok_at (upd_ne nq) h3⟩
    · simp at hq
      subst hq
      exact ⟨e.fz.free hp, e.fr.free hp, hn⟩
theorem EnF.push (e : EnF K B F ro ka ta sg H) {v : V} {w : W} (h : WOk K B F v w) : EnF K B F ro ka ((v, w) :: ta) sg H :=
  ⟨e.nz, e.fz, e.fr, e.nd, e.ce, e.ln, e.sl, fun p hp => (List.mem_cons.mp hp).elim (fun z => z ▸ h) (e.tm p)⟩
theorem EnF.held (e : EnF K B F ro ka ta sg H) {ta' : List (V × W)} (h : ∀ p ∈ ta', p ∈ ta) : EnF K B F ro ka ta' sg H :=
  ⟨e.nz, e.fz, e.fr, e.nd, e.ce, e.ln, e.sl, fun p hp => e.tm p (h p hp)⟩
/-- a slot is set -/
theorem EnF.set (e : EnF K B F ro ka ta sg H) {v : V} {w : W} (h : WOk K B F v w) (i : Nat) : EnF K B F (ro.set i (some w)) ka ta (sg.set i (some v)) H := by
  refine ⟨e.nz, e.fz, e.fr, e.nd, e.ce, by rw [List.length_set, List.length_set, e.ln], fun j w' hj => ?_, e.tm⟩
  by_cases hij : i = j
  · subst hij
    have hi : i < ro.length := by
      have := (List.getElem?_eq_some_iff.mp hj).1
      rwa [List.length_set] at this
    rw [List.getElem?_set_self hi] at hj
    cases hj
    exact ⟨v, by rw [List.getElem?_set_self (by rw [e.ln]; exact hi)], h⟩
  · rw [List.getElem?_set_ne hij] at hj ⊢
    exact e.sl j w' hj
/-- another frame: its slots -/
theorem EnF.frame (e : EnF K B F ro ka ta sg H) {ro' : List (Option W)} {sg' : L2.St} (hl : sg'.length = ro'.length) (h : ∀ (i : Nat) w, ro'[i]? = some (some w) → ∃ v, sg'[i]? = some (some v) ∧ WOk K B F v w) : EnF K B F ro' ka ta sg' H :=
  ⟨e.nz, e.fz, e.fr, e.nd, e.ce, hl, h, e.tm⟩
/-- cells in another order, some forgotten -/
theorem EnF.cells (e : EnF K B F ro ka ta sg H) {ka' : Cells} (hs : ka'.Sublist ka) : EnF K B F ro ka' ta sg H :=
  ⟨e.nz, e.fz, e.fr, (hs.map _).nodup e.nd, fun p hp => e.ce p (hs.subset hp), e.ln, e.sl, e.tm⟩
theorem EnF.perm (e : EnF K B F ro ka ta sg H) {ka' : Cells} (hs : ka'.Perm ka) : EnF K B F ro ka' ta sg H :=
  ⟨e.nz, e.fz, e.fr, (hs.map _).nodup_iff.mpr e.nd, fun p hp => e.ce p (hs.subset hp), e.ln, e.sl, e.tm⟩
/-- a cell is written -/
theorem EnF.write (e : EnF K B F ro ka ta sg H) {j : Nat} {p : Addr} {n n' : Nd} {o : HO} (hj : ka[j]? = some (p, n)) (hn : NdOk K F (upd H p o) p n') : EnF K B F ro (ka.set j (p, n')) ta sg (upd H p o) := by
  have hjl := (List.getElem?_eq_some_iff.mp hj).1
  have hm : (p, n) ∈ ka := List.mem_of_getElem? hj
  obtain ⟨fp, bp, _⟩ := e.ce _ hm
  have em : (ka.set j (p, n')).map (·.1) = ka.map (·.1) := by
    apply List.ext_getElem?
    intro i
    rw [List.getElem?_map, List.getElem?_map]
    by_cases hij : j = i
    · subst hij
      rw [List.getElem?_set_self hjl, hj]
      rfl
    · rw [List.getElem?_set_ne hij]
  refine ⟨e.nz, fun a u h => ?_, fun a u h => ?_, by rw [em]; exact e.nd, fun q hq => ?_, e.ln, e.sl, e.tm⟩
  · have ha : a ≠ p := ne_of_none h fp
    rcases e.fz a u h with q | ⟨k, ob, q⟩
    · exact .inl (by rw [upd_ne ha]; exact q)
    · exact .inr ⟨k, ob, by rw [upd_ne ha]; exact q⟩
  · have ha : a ≠ p := ne_of_none h bp
    rw [upd_ne ha]
    exact e.fr a u h
  · obtain ⟨i, hi⟩ := List.getElem?_of_mem hq
    by_cases hij : j = i
    · subst hij
      rw [List.getElem?_set_self hjl] at hi
      cases hi
      exact ⟨fp, bp, hn⟩
    · rw [List.getElem?_set_ne hij] at hi
      obtain ⟨h1, h2, h3⟩ := e.ce q (List.mem_of_getElem? hi)
      have nq : q.1 ≠ p := fun z => by
        have h4 : (ka.map (·.1))[i]? = some p := by rw [List.getElem?_map, hi]; simp [z]
        have h5 : (ka.map (·.1))[j]? = some p := by rw [List.getElem?_map, hj]; rfl
        obtain ⟨l1, e1⟩ := List.getElem?_eq_some_iff.mp h4
        obtain ⟨l2, e2⟩ := List.getElem?_eq_some_iff.mp h5
        exact hij ((List.getElem_inj e.nd).mp (e2.trans e1.symm))
      exact ⟨h1, h2, ndok_at (upd_ne nq) h3⟩
end
end DL

/-! DB: what expressions evaluate to, by data (own work). -/
namespace DL
open PySem L2

/-! ### judgements -/
section
variable (K : PySem.W.Frag)
abbrev Ro := List (Option W)
def EvD (te : TE) (ro : Ro) (ka : Cells) (w : W) (ka' : Cells) : Prop := ∀ B F0 ta sg H (Q : VK), En K B F0 ro ka ta sg H → (∀ v H', En K B F0 ro ka' ((v, w) :: ta) sg H' → Q v H') → te sg H Q
/-- a new cell -/
def EvN (te : TE) (ro : Ro) (ka : Cells) (n : Nd) (ka' : Cells) : Prop := ∀ B F0 ta sg H (Q : VK), En K B F0 ro ka ta sg H → (∀ a H', En K B F0 ro (ka' ++ [(a, n)]) ta sg H' → Q (.ref a) H') → te sg H Q
def EvT (tt : TT) (ro : Ro) (ka : Cells) (b : Bool) (ka' : Cells) : Prop := ∀ B F0 ta sg H (Q : Bool → Hp → Prop), En K B F0 ro ka ta sg H → (∀ H', En K B F0 ro ka' ta sg H' → Q b H') → tt sg H Q
def EvA (tr : TA) (ro : Ro) (ka : Cells) (ws : List W) (ka' : Cells) : Prop := ∀ B F0 ta sg H (Q : List V → Hp → Prop), En K B F0 ro ka ta sg H → (∀ vs H', vs.length = ws.length → En K B F0 ro ka' (vs.zip ws ++ ta) sg H' → Q vs H') → tr sg H Q
/-- a two-place operation, a one-place one -/
def RvD (r : R2) (ka : Cells) (x y z : W) : Prop := ∀ B F0 ro ta sg H u v (Q : VK), En K B F0 ro ka ta sg H → (u, x) ∈ ta → (v, y) ∈ ta → (∀ t H', En K B F0 ro ka ((t, z) :: ta) sg H' → Q t H') → r u v H Q
def RvN (r : R2) (ka : Cells) (x y : W) (n : Nd) : Prop := ∀ B F0 ro ta sg H u v (Q : VK), En K B F0 ro ka ta sg H → (u, x) ∈ ta → (v, y) ∈ ta → (∀ a H', En K B F0 ro (ka ++ [(a, n)]) ta sg H' → Q (.ref a) H') → r u v H Q
def RuD (r : V → Hp → VK → Prop) (ka : Cells) (x z : W) : Prop := ∀ B F0 ro ta sg H u (Q : VK), En K B F0 ro ka ta sg H → (u, x) ∈ ta → (∀ t H', En K B F0 ro ka ((t, z) :: ta) sg H' → Q t H') → r u H Q
/-- a call by values -/
def RcD (r : List V → Hp → VK → Prop) (ka : Cells) (xs : List W) (z : W) : Prop := ∀ B F0 ro ta sg H us (Q : VK), En K B F0 ro ka ta sg H → us.length = xs.length → (∀ p ∈ us.zip xs, p ∈ ta) → (∀ t H', En K B F0 ro ka ((t, z) :: ta) sg H' → Q t H') → r us H Q
def RcN (r : List V → Hp → VK → Prop) (ka : Cells) (xs : List W) (n : Nd) : Prop := ∀ B F0 ro ta sg H us (Q : VK), En K B F0 ro ka ta sg H → us.length = xs.length → (∀ p ∈ us.zip xs, p ∈ ta) → (∀ a H', En K B F0 ro (ka ++ [(a, n)]) ta sg H' → Q (.ref a) H') → r us H Q
/-- a part of a slice -/
def EvO (to : TO) (ro : Ro) (ka : Cells) (o : Option Int) (ka' : Cells) : Prop := ∀ B F0 ta sg H (Q : Option Int → Hp → Prop), En K B F0 ro ka ta sg H → (∀ H', En K B F0 ro ka' ta sg H' → Q o H') → to sg H Q
end

section
variable {K : PySem.W.Frag} {B F0 : Hp} {ro : Ro} {ka k1 k2 k3 : Cells} {ta : List (V × W)} {sg : L2.St} {H : Hp} {te tf tg : TE} {tt tu : TT} {tr : TA} {w x y z : W} {n : Nd} {r : R2}
theorem En.held (e : En K B F0 ro ka ta sg H) {ta' : List (V × W)} (h : ∀ p ∈ ta', p ∈ ta) : En K B F0 ro ka ta' sg H :=
  let ⟨F, g, q⟩ := e
  ⟨F, g, q.held h⟩
theorem En.pop {p : V × W} (e : En K B F0 ro ka (p :: ta) sg H) : En K B F0 ro ka ta sg H := e.held fun _ h => List.mem_cons_of_mem _ h
/-- what data says of its value -/
theorem En.push_imm (e : En K B F0 ro ka ta sg H) {v : V} {w : W} (h : ∀ F, WOk K B F v w) : En K B F0 ro ka ((v, w) :: ta) sg H :=
  let ⟨F, g, q⟩ := e
  ⟨F, g, q.push (h F)⟩
theorem En.tm_int (e : En K B F0 ro ka ta sg H) {v : V} {i : Int} (h : (v, W.val (.int i)) ∈ ta) : v = .int i := let ⟨_, _, q⟩ := e; q.tm _ h
theorem En.tm_str (e : En K B F0 ro ka ta sg H) {v : V} {i : Str} (h : (v, W.val (.str i)) ∈ ta) : v = .str i := let ⟨_, _, q⟩ := e; q.tm _ h
theorem En.tm_bl (e : En K B F0 ro ka ta sg H) {v : V} {i : Bool} (h : (v, W.val (.bl i)) ∈ ta) : v = .bl i := let ⟨_, _, q⟩ := e; q.tm _ h
theorem En.tm_non (e : En K B F0 ro ka ta sg H) {v : V} (h : (v, W.val .non) ∈ ta) : v = .non := let ⟨_, _, q⟩ := e; q.tm _ h
theorem En.tm_adr (e : En K B F0 ro ka ta sg H) {v : V} {a : Addr} (h : (v, W.val (.adr a)) ∈ ta) : v = .ref a := let ⟨_, _, q⟩ := e; q.tm _ h
theorem En.tm_ty (e : En K B F0 ro ka ta sg H) {v : V} {i : String} (h : (v, W.val (.ty i)) ∈ ta) : v = .ty i := let ⟨_, _, q⟩ := e; q.tm _ h

/-- data that is the value itself -/
def imm : D → Bool
  | .non => true | .bl _ => true | .int _ => true | .str _ => true | .ty _ => true | .adr _ => true
  | _ => false
theorem imm_any {F G : Hp} : ∀ {d : D} {v : V}, imm d = true → Rp K F d v → Rp K G d v
  | .non, _, _, h => h
  | .bl _, _, _, h => h
  | .int _, _, _, h => h
  | .str _, _, _, h => h
  | .ty _, _, _, h => h
  | .adr _, _, _, h => h
/-- a part of something viewed, of something frozen -/
def part (b : Bool) (d : D) : W := if b && !imm d then .vw d else .val d
theorem wok_part {B F : Hp} {v : V} {d : D} (b : Bool) (h : Rp K (if b then uni B F else F) d v) : WOk K B F v (part b d) := by
  unfold part
  cases b with
  | false => exact h
  | true =>
    cases q : imm d with
    | true => exact imm_any q h
    | false => exact h
/-! ### names, constants -/
theorem ev_var {i : Nat} (h : ro[i]? = some (some w)) : EvD K (tVar i) ro ka w ka := fun B F0 ta sg H Q e q => by
  obtain ⟨F, g, e⟩ := e
  obtain ⟨v, h1, h2⟩ := e.sl i w h
  exact ⟨v, h1, q v H ⟨F, g, e.push h2⟩⟩
theorem ev_int {i : Int} : EvD K (tC (.int i)) ro ka (.val (.int i)) ka := fun B F0 ta sg H Q e q => q _ _ (e.push_imm fun _ => rfl)
theorem ev_str {i : Str} : EvD K (tC (.str i)) ro ka (.val (.str i)) ka := fun B F0 ta sg H Q e q => q _ _ (e.push_imm fun _ => rfl)
theorem ev_bl {i : Bool} : EvD K (tC (.bl i)) ro ka (.val (.bl i)) ka := fun B F0 ta sg H Q e q => q _ _ (e.push_imm fun _ => rfl)
theorem ev_non : EvD K (tC .non) ro ka (.val .non) ka := fun B F0 ta sg H Q e q => q _ _ (e.push_imm fun _ => rfl)
theorem ev_ref {a : Addr} : EvD K (tC (.ref a)) ro ka (.val (.adr a)) ka := fun B F0 ta sg H Q e q => q _ _ (e.push_imm fun _ => rfl)
theorem ev_ty {a : String} : EvD K (tC (.ty a)) ro ka (.val (.ty a)) ka := fun B F0 ta sg H Q e q => q _ _ (e.push_imm fun _ => rfl)

/-! ### operations -/
theorem ev_op (ha : EvD K te ro ka x k1) (hb : EvD K tf ro k1 y k2) (hr : RvD K r k2 x y z) : EvD K (tOp r te tf) ro ka z k2 := fun B F0 ta sg H Q e q =>
  ha B F0 ta sg H _ e fun u H1 e1 => hb B F0 _ sg H1 _ e1 fun v H2 e2 => hr B F0 ro _ sg H2 u v Q e2 (List.mem_cons_of_mem _ List.mem_cons_self) List.mem_cons_self fun t H3 e3 =>
    q t H3 (e3.held fun p hp => by
      rcases List.mem_cons.mp hp with rfl | hp
      · exact List.mem_cons_self
      · exact List.mem_cons_of_mem _ (List.mem_cons_of_mem _ (List.mem_cons_of_mem _ hp)))
theorem ev_un {r : V → Hp → VK → Prop} (ha : EvD K te ro ka x k1) (hr : RuD K r k1 x z) : EvD K (tUn r te) ro ka z k1 := fun B F0 ta sg H Q e q =>
  ha B F0 ta sg H _ e fun u H1 e1 => hr B F0 ro _ sg H1 u Q e1 List.mem_cons_self fun t H3 e3 => q t H3 (e3.held fun p hp => by
      rcases List.mem_cons.mp hp with rfl | hp
      · exact List.mem_cons_self
      · exact List.mem_cons_of_mem _ (List.mem_cons_of_mem _ hp))
theorem ea_nil : EvA K tNil ro ka [] ka := fun B F0 ta sg H Q e q => q [] H rfl e
theorem ea_cons (ha : EvD K te ro ka x k1) {ws : List W} (hr : EvA K tr ro k1 ws k2) : EvA K (tCons te tr) ro ka (x :: ws) k2 := fun B F0 ta sg H Q e q =>
  ha B F0 ta sg H _ e fun u H1 e1 => hr B F0 _ sg H1 _ e1 fun vs H2 hl e2 => q (u :: vs) H2 (by rw [List.length_cons, List.length_cons, hl]) (e2.held fun p hp => by
    have hp' : p ∈ (u, x) :: (vs.zip ws ++ ta) := hp
    rcases List.mem_cons.mp hp' with rfl | h
    · exact List.mem_append_right _ List.mem_cons_self
    · rcases List.mem_append.mp h with h | h
      · exact List.mem_append_left _ h
      · exact List.mem_append_right _ (List.mem_cons_of_mem _ h))
theorem ev_cb {r : List V → Hp → VK → Prop} {ws : List W} (ha : EvA K tr ro ka ws k1) (hr : RcD K r k1 ws z) : EvD K (tCB r tr) ro ka z k1 := fun B F0 ta sg H Q e q =>
  ha B F0 ta sg H _ e fun us H1 hl e1 => hr B F0 ro _ sg H1 us Q e1 hl (fun p hp => List.mem_append_left _ hp) fun t H2 e2 => q t H2 (e2.held fun p hp => by
    rcases List.mem_cons.mp hp with rfl | hp
    · exact List.mem_cons_self
    · exact List.mem_cons_of_mem _ (List.mem_append_right _ hp))
theorem evn_cb {r : List V → Hp → VK → Prop} {ws : List W} (ha : EvA K tr ro ka ws k1) (hr : RcN K r k1 ws n) : EvN K (tCB r tr) ro ka n k1 := fun B F0 ta sg H Q e q =>
  ha B F0 ta sg H _ e fun us H1 hl e1 => hr B F0 ro _ sg H1 us Q e1 hl (fun p hp => List.mem_append_left _ hp) fun t H2 e2 => q t H2 (e2.held fun p hp => List.mem_append_right _ hp)
/-- another of the ways of an operation -/
theorem rvd_l {r' : R2} (h : RvD K r ka x y z) : RvD K (fun x y H Q => r x y H Q ∨ r' x y H Q) ka x y z := fun B F0 ro ta sg H u v Q e h1 h2 q => .inl (h B F0 ro ta sg H u v Q e h1 h2 q)
theorem rvd_r {r' : R2} (h : RvD K r' ka x y z) : RvD K (fun x y H Q => r x y H Q ∨ r' x y H Q) ka x y z := fun B F0 ro ta sg H u v Q e h1 h2 q => .inr (h B F0 ro ta sg H u v Q e h1 h2 q)
theorem rcd_l {r r' : List V → Hp → VK → Prop} {xs : List W} (h : RcD K r ka xs z) : RcD K (fun x H Q => r x H Q ∨ r' x H Q) ka xs z := fun B F0 ro ta sg H u Q e h1 h2 q => .inl (h B F0 ro ta sg H u Q e h1 h2 q)
theorem rcd_r {r r' : List V → Hp → VK → Prop} {xs : List W} (h : RcD K r' ka xs z) : RcD K (fun x H Q => r x H Q ∨ r' x H Q) ka xs z := fun B F0 ro ta sg H u Q e h1 h2 q => .inr (h B F0 ro ta sg H u Q e h1 h2 q)
/-! ### a new cell, frozen -/
theorem En.freeze_l (e : En K B F0 ro (ka ++ [(a, .lst ds)]) ta sg H) : En K B F0 ro ka ((.ref a, .val (.lst ds)) :: ta) sg H := by
  obtain ⟨F, g, e⟩ := e
  obtain ⟨fa, ba, xs, ha, rl⟩ := e.ce (a, .lst ds) (by simp)
  have gg : Gr B F (upd F a (.lst xs)) := ⟨Sub.new fa, fun b h1 h2 => by
    have ne : b ≠ a := fun q => h2 (q ▸ ba)
    rw [upd_ne ne]
    exact h1⟩
  have nd2 := e.nd
  rw [List.map_append, List.nodup_append] at nd2
  refine ⟨upd F a (.lst xs), g.trans gg, ⟨fun b u h => ?_, fun b u h => ?_, e.fr, nd2.1, fun q hq => ?_, e.ln, fun i w h => ?_, fun q hq => ?_⟩⟩
  · by_cases hb : b = a
    · subst hb; rw [upd_same] at h; cases h; rfl
    · rw [upd_ne hb] at h; exact e.nz b u h
  · by_cases hb : b = a
    · subst hb; rw [upd_same] at h; cases h; exact .inl ha
    · rw [upd_ne hb] at h; exact e.fz b u h
  · obtain ⟨h1, h2, h3⟩ := e.ce q (List.mem_append_left _ hq)
    have nq : q.1 ≠ a := fun z => nd2.2.2 q.1 (List.mem_map.mpr ⟨q, hq, rfl⟩) a (by simp) z
    exact ⟨by rw [upd_ne nq]; exact h1, h2, ndok_gr e.nz gg h3⟩
  · obtain ⟨v, h1, h2⟩ := e.sl i w h
    exact ⟨v, h1, wok_gr e.nz gg h2⟩
  · rcases List.mem_cons.mp hq with rfl | hq
    · exact ⟨a, xs, rfl, .inl upd_same, RpL.mono gg.sub.exz e.nz _ _ rl⟩
    · exact wok_gr e.nz gg (e.tm q hq)
theorem En.freeze_k (e : En K B F0 ro (ka ++ [(a, .dic ds)]) ta sg H) : En K B F0 ro ka ((.ref a, .val (.dic ds)) :: ta) sg H := by
  obtain ⟨F, g, e⟩ := e
  obtain ⟨fa, ba, xs, ha, rl⟩ := e.ce (a, .dic ds) (by simp)
  have gg : Gr B F (upd F a (.dK xs)) := ⟨Sub.new fa, fun b h1 h2 => by
    have ne : b ≠ a := fun q => h2 (q ▸ ba)
    rw [upd_ne ne]
    exact h1⟩
  have nd2 := e.nd
  rw [List.map_append, List.nodup_append] at nd2
  refine ⟨upd F a (.dK xs), g.trans gg, ⟨fun b u h => ?_, fun b u h => ?_, e.fr, nd2.1, fun q hq => ?_, e.ln, fun i w h => ?_, fun q hq => ?_⟩⟩
  · by_cases hb : b = a
    · subst hb; rw [upd_same] at h; cases h; rfl
    · rw [upd_ne hb] at h; exact e.nz b u h
  · by_cases hb : b = a
    · subst hb; rw [upd_same] at h; cases h; exact .inl ha
    · rw [upd_ne hb] at h; exact e.fz b u h
  · obtain ⟨h1, h2, h3⟩ := e.ce q (List.mem_append_left _ hq)
    have nq : q.1 ≠ a := fun z => nd2.2.2 q.1 (List.mem_map.mpr ⟨q, hq, rfl⟩) a (by simp) z
    exact ⟨by rw [upd_ne nq]; exact h1, h2, ndok_gr e.nz gg h3⟩
  · obtain ⟨v, h1, h2⟩ := e.sl i w h
    exact ⟨v, h1, wok_gr e.nz gg h2⟩
  · rcases List.mem_cons.mp hq with rfl | hq
    · exact ⟨a, xs, rfl, .inl upd_same, RpK.mono gg.sub.exz e.nz _ _ rl⟩
    · exact wok_gr e.nz gg (e.tm q hq)
theorem EvN.lst {ds : List D} (h : EvN K te ro ka (.lst ds) k1) : EvD K te ro ka (.val (.lst ds)) k1 := fun B F0 ta sg H Q e q => h B F0 ta sg H Q e fun a H1 e1 => q _ _ e1.freeze_l
theorem EvN.dic {ds : List (Key × D)} (h : EvN K te ro ka (.dic ds) k1) : EvD K te ro ka (.val (.dic ds)) k1 := fun B F0 ta sg H Q e q => h B F0 ta sg H Q e fun a H1 e1 => q _ _ e1.freeze_k

/-! ### tests -/
theorem et_test {b : Bool} (h : EvD K te ro ka (.val (.bl b)) k1) : EvT K (tTest te) ro ka b k1 := fun B F0 ta sg H Q e q => h B F0 ta sg H _ e fun v H1 e1 => ⟨b, e1.tm_bl List.mem_cons_self, q H1 e1.pop⟩
theorem et_B {b : Bool} (h : EvD K te ro ka (.val (.bl b)) k1) : EvT K (tB te) ro ka b k1 := fun B F0 ta sg H Q e q => h B F0 ta sg H _ e fun v H1 e1 => ⟨b, e1.tm_bl List.mem_cons_self, q H1 e1.pop⟩
theorem et_not {a : Bool} (h : EvT K tt ro ka a k1) : EvT K (tNot tt) ro ka (!a) k1 := fun B F0 ta sg H Q e q => h B F0 ta sg H _ e fun H1 e1 => q H1 e1
/-- and, or: k2 is reached in any case -/
theorem et_and {a b : Bool} (h1 : EvT K tt ro ka a k1) (h2 : a = true → EvT K tu ro k1 b k1) : EvT K (tAnd tt tu) ro ka (a && b) k1 := fun B F0 ta sg H Q e q => h1 B F0 ta sg H _ e fun H1 e1 => by
  cases a with
  | true => exact h2 rfl B F0 ta sg H1 Q e1 q
  | false => exact q H1 e1
theorem et_or {a b : Bool} (h1 : EvT K tt ro ka a k1) (h2 : a = false → EvT K tu ro k1 b k1) : EvT K (tOr tt tu) ro ka (a || b) k1 := fun B F0 ta sg H Q e q => h1 B F0 ta sg H _ e fun H1 e1 => by
  cases a with
  | true => exact q H1 e1
  | false => exact h2 rfl B F0 ta sg H1 Q e1 q
theorem et_and1 {b : Bool} (h1 : EvT K tt ro ka true k1) (h2 : EvT K tu ro k1 b k2) : EvT K (tAnd tt tu) ro ka b k2 := fun B F0 ta sg H Q e q => h1 B F0 ta sg H _ e fun H1 e1 => h2 B F0 ta sg H1 Q e1 q
theorem et_and0 (h1 : EvT K tt ro ka false k1) : EvT K (tAnd tt tu) ro ka false k1 := fun B F0 ta sg H Q e q => h1 B F0 ta sg H _ e fun H1 e1 => q H1 e1
theorem et_or0 {b : Bool} (h1 : EvT K tt ro ka false k1) (h2 : EvT K tu ro k1 b k2) : EvT K (tOr tt tu) ro ka b k2 := fun B F0 ta sg H Q e q => h1 B F0 ta sg H _ e fun H1 e1 => h2 B F0 ta sg H1 Q e1 q
theorem et_or1 (h1 : EvT K tt ro ka true k1) : EvT K (tOr tt tu) ro ka true k1 := fun B F0 ta sg H Q e q => h1 B F0 ta sg H _ e fun H1 e1 => q H1 e1
theorem EvT.to {a b : Bool} (h : EvT K tt ro ka a k1) (e : a = b) : EvT K tt ro ka b k1 := e ▸ h
theorem EvD.to {w' : W} (h : EvD K te ro ka w k1) (e : w = w') : EvD K te ro ka w' k1 := e ▸ h
theorem EvD.imm {d : D} (h : EvD K te ro ka (.vw d) k1) (i : imm d = true) : EvD K te ro ka (.val d) k1 := fun B F0 ta sg H Q e q => h B F0 ta sg H _ e fun v H1 e1 => q v H1 (by
  obtain ⟨F, g, e1⟩ := e1
  have h1 := e1.tm _ List.mem_cons_self
  exact ⟨F, g, (e1.held (ta' := ta) fun p hp => List.mem_cons_of_mem _ hp).push (imm_any i h1)⟩)
theorem EvD.vw {d : D} (h : EvD K te ro ka (.val d) k1) : EvD K te ro ka (.vw d) k1 := fun B F0 ta sg H Q e q => h B F0 ta sg H _ e fun v H1 e1 => q v H1 (by
  obtain ⟨F, g, e1⟩ := e1
  exact ⟨F, g, (e1.held (ta' := ta) fun p hp => List.mem_cons_of_mem _ hp).push (wok_vw e1.nz (e1.tm _ List.mem_cons_self))⟩)
theorem ev_andV {a b : Bool} (h1 : EvD K te ro ka (.val (.bl a)) k1) (h2 : a = true → EvD K tf ro k1 (.val (.bl b)) k1) : EvD K (tAndV te tf) ro ka (.val (.bl (a && b))) k1 := fun B F0 ta sg H Q e q => h1 B F0 ta sg H _ e fun v H1 e1 => ⟨a, e1.tm_bl List.mem_cons_self, by
  have hv := e1.tm_bl List.mem_cons_self
  cases a with
  | true => exact h2 rfl B F0 ta sg H1 Q e1.pop q
  | false => subst hv; exact q _ H1 e1⟩
theorem ev_ifT (h : EvT K tt ro ka true k1) (h1 : EvD K te ro k1 w k2) : EvD K (tIf tt te tf) ro ka w k2 := fun B F0 ta sg H Q e q => h B F0 ta sg H _ e fun H1 e1 => h1 B F0 ta sg H1 Q e1 q
theorem ev_ifF (h : EvT K tt ro ka false k1) (h1 : EvD K tf ro k1 w k2) : EvD K (tIf tt te tf) ro ka w k2 := fun B F0 ta sg H Q e q => h B F0 ta sg H _ e fun H1 e1 => h1 B F0 ta sg H1 Q e1 q
theorem ev_if {b : Bool} (h : EvT K tt ro ka b k1) (h1 : b = true → EvD K te ro k1 w k2) (h2 : b = false → EvD K tf ro k1 w k2) : EvD K (tIf tt te tf) ro ka w k2 := by
  cases b with
  | true => exact ev_ifT h (h1 rfl)
  | false => exact ev_ifF h (h2 rfl)

/-! ### slices' parts -/
theorem eo_none : EvO K tNoPart ro ka none ka := fun B F0 ta sg H Q e q => q H e
theorem eo_some {i : Int} (h : EvD K te ro ka (.val (.int i)) k1) : EvO K (tPart te) ro ka (some i) k1 := fun B F0 ta sg H Q e q => h B F0 ta sg H _ e fun v H1 e1 => ⟨i, e1.tm_int List.mem_cons_self, q H1 e1.pop⟩

/-! ### tuples, lists displayed -/
theorem rpl_of {B F : Hp} : ∀ {vs : List V} {ds : List D}, vs.length = ds.length → (∀ p ∈ vs.zip (ds.map W.val), WOk K B F p.1 p.2) → RpL K F ds vs
  | [], [], _, _ => rfl
  | [], _ :: _, h, _ => by cases h
  | _ :: _, [], h, _ => by cases h
  | v :: vs, d :: ds, hl, h => ⟨v, vs, rfl, h (v, .val d) List.mem_cons_self, rpl_of (by simpa using hl) fun p hp => h p (List.mem_cons_of_mem _ hp)⟩
theorem rpl_len {F : Hp} : ∀ {ds : List D} {vs : List V}, RpL K F ds vs → vs.length = ds.length
  | [], vs, h => by rw [show vs = [] from h]; rfl
  | d :: ds, vs, h => by
    obtain ⟨x, ys, rfl, _, h2⟩ := h
    rw [List.length_cons, List.length_cons, rpl_len h2]
theorem rpl_get {F : Hp} : ∀ {ds : List D} {vs : List V} {i : Nat} {d : D}, RpL K F ds vs → ds[i]? = some d → ∃ v, vs[i]? = some v ∧ Rp K F d v
  | [], _, _, _, _, e => by simp at e
  | d0 :: ds, vs, 0, d, h, e => by
    obtain ⟨x, ys, rfl, h1, _⟩ := h
    cases e
    exact ⟨x, rfl, h1⟩
  | d0 :: ds, vs, i + 1, d, h, e => by
    obtain ⟨x, ys, rfl, _, h2⟩ := h
    obtain ⟨v, q1, q2⟩ := rpl_get (i := i) (d := d) h2 (by simpa using e)
    exact ⟨v, by simpa using q1, q2⟩
theorem rpl_app {F : Hp} : ∀ {ds es : List D} {xs ys : List V}, RpL K F ds xs → RpL K F es ys → RpL K F (ds ++ es) (xs ++ ys)
  | [], es, xs, ys, h, h2 => by rw [show xs = [] from h]; exact h2
  | d :: ds, es, xs, ys, h, h2 => by
    obtain ⟨x, zs, rfl, h1, h3⟩ := h
    exact ⟨x, zs ++ ys, rfl, h1, rpl_app h3 h2⟩
theorem rpl_drop {F : Hp} : ∀ (n : Nat) {ds : List D} {xs : List V}, RpL K F ds xs → RpL K F (ds.drop n) (xs.drop n)
  | 0, _, _, h => h
  | n + 1, [], xs, h => by rw [show xs = [] from h]; rfl
  | n + 1, d :: ds, xs, h => by
    obtain ⟨x, ys, rfl, _, h2⟩ := h
    exact rpl_drop n h2
theorem rpl_take {F : Hp} : ∀ (n : Nat) {ds : List D} {xs : List V}, RpL K F ds xs → RpL K F (ds.take n) (xs.take n)
  | 0, _, _, _ => rfl
  | n + 1, [], xs, h => by rw [show xs = [] from h]; rfl
  | n + 1, d :: ds, xs, h => by
    obtain ⟨x, ys, rfl, h1, h2⟩ := h
    exact ⟨x, ys.take n, rfl, h1, rpl_take n h2⟩
theorem rpl_set {F : Hp} : ∀ {ds : List D} {xs : List V} (i : Nat) {d : D} {v : V}, RpL K F ds xs → Rp K F d v → RpL K F (ds.set i d) (xs.set i v)
  | [], xs, _, _, _, h, _ => by rw [show xs = [] from h]; rfl
  | d :: ds, xs, 0, _, _, h, q => by
    obtain ⟨x, ys, rfl, h1, h2⟩ := h
    exact ⟨_, ys, rfl, q, h2⟩
  | d :: ds, xs, i + 1, _, _, h, q => by
    obtain ⟨x, ys, rfl, h1, h2⟩ := h
    exact ⟨x, _, rfl, h1, rpl_set i h2 q⟩
theorem ev_tup {ds : List D} (h : EvA K tr ro ka (ds.map W.val) k1) (hl : ds.length ≤ 100000 := by decide) : EvD K (tTup tr) ro ka (.val (.tup ds)) k1 := fun B F0 ta sg H Q e q => h B F0 ta sg H _ e fun vs H1 hvl e1 => by
  rw [List.length_map] at hvl
  refine ⟨Nat.le_trans (by rw [hvl]; exact hl) (by decide : 100000 ≤ sizeLine), fun p hp => q _ _ ?_⟩
  obtain ⟨F, g, e1⟩ := e1
  obtain ⟨e2, g2⟩ := e1.lay (o := .tup vs) hp rfl
  refine ⟨_, g.trans g2, (e2.held (ta' := ta) fun p hp => List.mem_append_right _ hp).push ⟨p, vs, rfl, .inl (.inl upd_same), ?_⟩⟩
  exact RpL.mono g2.sub.exz e1.nz _ _ (rpl_of hvl fun z hz => e1.tm z (List.mem_append_left _ hz))
theorem evn_lst {ds : List D} (h : EvA K tr ro ka (ds.map W.val) k1) (hl : ds.length ≤ 100000 := by decide) : EvN K (tLst tr) ro ka (.lst ds) k1 := fun B F0 ta sg H Q e q => h B F0 ta sg H _ e fun vs H1 hvl e1 => by
  rw [List.length_map] at hvl
  refine ⟨Nat.le_trans (by rw [hvl]; exact hl) (by decide : 100000 ≤ sizeLine), fun p hp => q _ _ ?_⟩
  obtain ⟨F, g, e1⟩ := e1
  refine ⟨F, g, (e1.cell (o := .lst vs) hp (n := .lst ds) ⟨vs, upd_same, rpl_of hvl fun z hz => e1.tm z (List.mem_append_left _ hz)⟩).held fun p hp => List.mem_append_right _ hp⟩
end
end DL

/-! DC: operations by data (own work). -/
namespace DL
open PySem L2

/-! ### universal operators: each of the ways that this text takes -/
abbrev rAddI : R2 := rI0 fun i j => .int (i + j)
abbrev rAddS : R2 := fun x y H Q => ∃ i j, x = .str i ∧ y = .str j ∧ i.length + j.length ≤ sizeLine ∧ Q (.str (i ++ j)) H
/-- list + list, locked or not -/
def rCatR : R2 := fun x y H Q => ∃ l b xs zs, x = .ref l ∧ y = .ref b ∧ Rd H l (.lst xs) ∧ Rd H b (.lst zs) ∧ xs.length + zs.length ≤ sizeLine ∧ ∀ p, H p = none → Q (.ref p) (upd H p (.lst (xs ++ zs)))
section
variable {X : Cx}
theorem op_catR : OpR X (binaryOp .Add) rCatR := fun pins s sg H x y v u Q I rx ry h => by
  obtain ⟨l, b, xs, zs, ex, ey, h1, h2, hz, q⟩ := h
  subst ex ey
  cases rx
  cases ry
  have ⟨_, us, _, r, e⟩ := h1.ok I.hok
  have ⟨_, ws, _, r2, e2⟩ := h2.ok I.hok
  have lens : us.length + ws.length ≤ sizeLine := by rw [← r.length, ← r2.length]; exact hz
  refine PySem.P.add_list e e2 ?_ (show us.toArray.size + ws.toArray.size ≤ _ by rw [us.size_toArray, ws.size_toArray]; exact lens)
  rw [List.append_toArray]
  exact ⟨.ref _, _, I.lnew (t' := s.toks) (r.append r2) (xs.length_append ▸ hz), rfl, q _ I.fresh⟩
def rAddU (K : PySem.W.Frag) : R2 := fun x y H Q => rAddI x y H Q ∨ (fun x y H Q => rAddS x y H Q ∨ (fun x y H Q => rCatR x y H Q ∨ rCatA K x y H Q) x y H Q) x y H Q
theorem op_addU : OpR X (binaryOp .Add) (rAddU X.K) := op_add.or (op_add_str.or (op_catR.or op_catA))
/-- s * n for texts -/
abbrev rSubI : R2 := rI0 fun i j => .int (i - j)
abbrev rPowI : R2 := rI CPow fun i j => .int (i ^ j.toNat)
abbrev rModI : R2 := rI (fun _ j => 0 < j) fun i j => .int (i % j)
abbrev rDivI : R2 := rI CDiv fun i j => .int (i / j)
abbrev rLtI : R2 := rI0 fun i j => .bl (decide (i < j))
abbrev rGtI : R2 := rI0 fun i j => .bl (decide (j < i))
abbrev rGeI : R2 := rI0 fun i j => .bl (decide (j ≤ i))
end

section
variable {K : PySem.W.Frag} {B F0 : Hp} {ro : Ro} {ka k1 k2 k3 : Cells} {ta : List (V × W)} {sg : L2.St} {H : Hp} {te tf tg : TE} {tl th : TO} {tr : TA} {w x y z : W} {n : Nd} {r : R2}

/-! ### numbers -/
theorem rv_I0 {g : Int → Int → V} {i j : Int} {d : D} (h : ∀ F, Rp K F d (g i j)) : RvD K (rI0 g) ka (.val (.int i)) (.val (.int j)) (.val d) := fun B F0 ro ta sg H u v Q e h1 h2 q =>
  ⟨i, j, e.tm_int h1, e.tm_int h2, q _ _ (e.push_imm fun F => h F)⟩
theorem rv_I {C : Int → Int → Prop} {g : Int → Int → V} {i j : Int} {d : D} (c : C i j) (h : ∀ F, Rp K F d (g i j)) : RvD K (rI C g) ka (.val (.int i)) (.val (.int j)) (.val d) := fun B F0 ro ta sg H u v Q e h1 h2 q =>
  ⟨i, j, e.tm_int h1, e.tm_int h2, c, q _ _ (e.push_imm fun F => h F)⟩
theorem rv_addI {i j : Int} : RvD K (rAddU K) ka (.val (.int i)) (.val (.int j)) (.val (.int (i + j))) := rvd_l (rv_I0 fun _ => rfl)
theorem rv_addS {i j : Str} (h : i.length + j.length ≤ 100000) : RvD K (rAddU K) ka (.val (.str i)) (.val (.str j)) (.val (.str (i ++ j))) := rvd_r (rvd_l fun B F0 ro ta sg H u v Q e h1 h2 q =>
  ⟨i, j, e.tm_str h1, e.tm_str h2, Nat.le_trans h (by decide), q _ _ (e.push_imm fun F => rfl)⟩)
theorem rv_sub {i j : Int} : RvD K rSubI ka (.val (.int i)) (.val (.int j)) (.val (.int (i - j))) := rv_I0 fun _ => rfl
theorem rv_pow {i j : Int} (c : CPow i j) : RvD K rPowI ka (.val (.int i)) (.val (.int j)) (.val (.int (i ^ j.toNat))) := rv_I c fun _ => rfl
theorem rv_mod {i j : Int} (c : 0 < j) : RvD K rModI ka (.val (.int i)) (.val (.int j)) (.val (.int (i % j))) := rv_I c fun _ => rfl
theorem rv_div {i j : Int} (c : CDiv i j) : RvD K rDivI ka (.val (.int i)) (.val (.int j)) (.val (.int (i / j))) := rv_I c fun _ => rfl
theorem rv_lt {i j : Int} : RvD K rLtI ka (.val (.int i)) (.val (.int j)) (.val (.bl (decide (i < j)))) := rv_I0 fun _ => rfl
theorem rv_gt {i j : Int} : RvD K rGtI ka (.val (.int i)) (.val (.int j)) (.val (.bl (decide (j < i)))) := rv_I0 fun _ => rfl
theorem rv_ge {i j : Int} : RvD K rGeI ka (.val (.int i)) (.val (.int j)) (.val (.bl (decide (j ≤ i)))) := rv_I0 fun _ => rfl
theorem ru_neg {i : Int} : RuD K (rU fun i => .int (-i)) ka (.val (.int i)) (.val (.int (-i))) := fun B F0 ro ta sg H u Q e h1 q => ⟨i, e.tm_int h1, q _ _ (e.push_imm fun F => rfl)⟩

/-! ### sequences: what stands behind a value -/
/-- w is a sequence of ds: t: a tuple; b: viewed -/
inductive Lk (ka : Cells) : W → Bool → List D → Bool → Prop where
  | vl {ds} : Lk ka (.val (.lst ds)) false ds false
  | vt {ds} : Lk ka (.val (.tup ds)) true ds false
  | wl {ds} : Lk ka (.vw (.lst ds)) false ds true
  | wt {ds} : Lk ka (.vw (.tup ds)) true ds true
  | ce {a ds} (j : Nat) (h : ka[j]? = some (a, .lst ds)) : Lk ka (.val (.adr a)) false ds false
def SqB (K : PySem.W.Frag) (t : Bool) (H : Hp) (a : Addr) (xs : List V) : Prop := if t then SqT K H a xs else Rd H a (.lst xs)
theorem SqB.sq {t : Bool} {a : Addr} {xs : List V} (h : SqB K t H a xs) : SqL K H a xs ∨ SqT K H a xs := by
  cases t with
  | true => exact .inr h
  | false => exact .inl (.inl h)
/-- what a sequence's value is, its items over a heap G that H holds -/
theorem Lk.get {F : Hp} {t b : Bool} {ds : List D} {v : V} (l : Lk ka w t ds b) (e : EnF K B F ro ka ta sg H) (h : WOk K B F v w) :
    ∃ a xs, v = .ref a ∧ SqB K t H a xs ∧ RpL K (if b then uni B F else F) ds xs := by
  cases l with
  | vl =>
    obtain ⟨a, xs, rfl, h1, h2⟩ := h
    exact ⟨a, xs, rfl, e.fz.rd e.nz h1, h2⟩
  | vt =>
    obtain ⟨a, xs, rfl, h1, h2⟩ := h
    exact ⟨a, xs, rfl, sqT_mono e.fz e.nz h1, h2⟩
  | wl =>
    obtain ⟨a, xs, rfl, h1, h2⟩ := h
    exact ⟨a, xs, rfl, (uni_exz e.fz e.fr).rd (uni_nz e.nz) h1, h2⟩
  | wt =>
    obtain ⟨a, xs, rfl, h1, h2⟩ := h
    exact ⟨a, xs, rfl, sqT_mono (uni_exz e.fz e.fr) (uni_nz e.nz) h1, h2⟩
  | @ce a ds j hj =>
    obtain ⟨_, _, xs, h1, h2⟩ := e.ce _ (List.mem_of_getElem? hj)
    have hv : v = .ref a := h
    exact ⟨a, xs, hv, .inl h1, h2⟩
theorem Lk.at {F : Hp} {t b : Bool} {ds : List D} {v : V} (l : Lk ka w t ds b) (e : EnF K B F ro ka ta sg H) (h : WOk K B F v w) :
    ∃ a xs, v = .ref a ∧ (SqL K H a xs ∨ SqT K H a xs) ∧ RpL K (if b then uni B F else F) ds xs :=
  let ⟨a, xs, h1, h2, h3⟩ := l.get e h
  ⟨a, xs, h1, h2.sq, h3⟩

/-! ### len -/
/-- len: sequences, texts, dicts -/
def rLenU (K : PySem.W.Frag) : List V → Hp → VK → Prop := fun xs H Q => (fun xs H Q => ∃ p ys, xs = [.ref p] ∧ (SqL K H p ys ∨ SqT K H p ys) ∧ Q (.int ys.length) H) xs H Q ∨ (fun xs H Q => ∃ z, xs = [.str z] ∧ z.length ≤ sizeLine ∧ Q (.int z.length) H) xs H Q
theorem call_lenU {X : Cx} : CallR X (.builtin "len") (rLenU X.K) := call_len_seq.or call_len_str
theorem zip_one {us : List V} {x : W} (h : us.length = [x].length) (hm : ∀ p ∈ us.zip [x], p ∈ ta) : ∃ u, us = [u] ∧ (u, x) ∈ ta := by
  match us, h with
  | [u], _ => exact ⟨u, rfl, hm _ List.mem_cons_self⟩
theorem zip_two {us : List V} {x y : W} (h : us.length = [x, y].length) (hm : ∀ p ∈ us.zip [x, y], p ∈ ta) : ∃ u v, us = [u, v] ∧ (u, x) ∈ ta ∧ (v, y) ∈ ta := by
  match us, h with
  | [u, v], _ => exact ⟨u, v, rfl, hm _ List.mem_cons_self, hm _ (List.mem_cons_of_mem _ List.mem_cons_self)⟩
theorem rc_len {t b : Bool} {ds : List D} (l : Lk ka w t ds b) : RcD K (rLenU K) ka [w] (.val (.int ds.length)) := rcd_l fun B F0 ro ta sg H us Q e hl hm q => by
  obtain ⟨u, rfl, hu⟩ := zip_one hl hm
  obtain ⟨F, g, e⟩ := e
  obtain ⟨a, xs, rfl, h1, h2⟩ := l.at e (e.tm _ hu)
  refine ⟨a, xs, rfl, h1, ?_⟩
  rw [rpl_len h2]
  exact q _ _ ⟨F, g, e.push rfl⟩
theorem rc_lenS {s : Str} (h : s.length ≤ 100000) : RcD K (rLenU K) ka [.val (.str s)] (.val (.int s.length)) := rcd_r fun B F0 ro ta sg H us Q e hl hm q => by
  obtain ⟨u, rfl, hu⟩ := zip_one hl hm
  have hv := e.tm_str hu
  subst hv
  exact ⟨s, rfl, Nat.le_trans h (by decide), q _ _ (e.push_imm fun _ => rfl)⟩

/-! ### items -/
theorem atI_map {α β : Type} {f : α → β → Prop} {xs : List α} {ys : List β} (hl : xs.length = ys.length) {i : Int} {y : β} (h : atI ys i = some y) (hf : ∀ (j : Nat) y, ys[j]? = some y → ∃ x, xs[j]? = some x ∧ f x y) : ∃ x, atI xs i = some x ∧ f x y := by
  unfold atI at h ⊢
  rw [hl]
  cases q : ixN ys.length i with
  | none => rw [q] at h; cases h
  | some j =>
    rw [q] at h
    exact hf j y h
theorem rv_ix {t b : Bool} {ds : List D} {i : Int} {d : D} (l : Lk ka w t ds b) (hd : atI ds i = some d) : RvD K (rIx K) ka w (.val (.int i)) (part b d) := fun B F0 ro ta sg H u v Q e h1 h2 q => by
  have hv := e.tm_int h2
  subst hv
  obtain ⟨F, g, e⟩ := e
  obtain ⟨a, xs, rfl, s1, s2⟩ := l.at e (e.tm _ h1)
  obtain ⟨z, hz, rz⟩ := atI_map (f := fun x d => Rp K (if b then uni B F else F) d x) (rpl_len s2) hd fun j y hy => rpl_get s2 hy
  have fin := q z H ⟨F, g, e.push (wok_part b rz)⟩
  rcases s1 with s1 | s1
  · exact .inl ⟨a, xs, i, z, rfl, rfl, s1, hz, fin⟩
  · exact .inr (.inl ⟨a, xs, i, z, rfl, rfl, s1, hz, fin⟩)
theorem rv_ixS {s : Str} {i : Int} {c : Nat} (hs : s.length ≤ 100000) (hc : atI s.cps.toList i = some c) : RvD K (rIx K) ka (.val (.str s)) (.val (.int i)) (.val (.str ⟨#[c]⟩)) := fun B F0 ro ta sg H u v Q e h1 h2 q =>
  .inr (.inr ⟨s, i, c, e.tm_str h1, e.tm_int h2, Nat.le_trans hs (by decide), hc, q _ _ (e.push_imm fun _ => rfl)⟩)

/-! ### slices -/
abbrev rSlU (K : PySem.W.Frag) : V → Option Int → Option Int → Hp → VK → Prop := fun x lo hi H Q => rSlL K x lo hi H Q ∨ (fun x lo hi H Q => rSlA K x lo hi H Q ∨ rSlS x lo hi H Q) x lo hi H Q
theorem sl_U {X : Cx} : SlR X (rSlU X.K) := sl_list.or (sl_tupA.or sl_str)
def cutD {α : Type} (xs : List α) (lo hi : Option Int) : List α := (xs.drop (HT.sIx xs.length 0 lo)).take (HT.sIx xs.length xs.length hi - HT.sIx xs.length 0 lo)
theorem rpl_cut {F : Hp} {ds : List D} {xs : List V} (h : RpL K F ds xs) (lo hi : Option Int) : RpL K F (cutD ds lo hi) (cutV xs lo hi) := by
  unfold cutD cutV
  rw [rpl_len h]
  exact rpl_take _ (rpl_drop _ h)
theorem ev_slT {lo hi : Option Int} {ds : List D} (ha : EvD K te ro ka (.val (.tup ds)) k1) (h1 : EvO K tl ro k1 lo k2) (h2 : EvO K th ro k2 hi k3) : EvD K (tSl (rSlU K) te tl th) ro ka (.val (.tup (cutD ds lo hi))) k3 := fun B F0 ta sg H Q e q =>
  ha B F0 ta sg H _ e fun u H1 e1 => h1 B F0 _ sg H1 _ e1 fun H2 e2 => h2 B F0 _ sg H2 _ e2 fun H3 e3 => by
    obtain ⟨F, g, e3⟩ := e3
    obtain ⟨a, xs, rfl, s1, s2⟩ := Lk.vt.get e3 (e3.tm _ List.mem_cons_self)
    have hk := e3.tm _ List.mem_cons_self
    refine .inr (.inl ⟨a, xs, rfl, s1, fun hw => q _ _ ⟨F, g, (e3.held (ta' := ta) fun p hp => List.mem_cons_of_mem _ hp).push ?_⟩, fun _ p hp => q (.ref p) _ ?_⟩)
    · have e0 : cutD ds lo hi = ds := by
        unfold cutD
        rw [← rpl_len s2, hw.1, hw.2]
        simp
        exact List.take_of_length_le (by rw [rpl_len s2]; exact Nat.le_refl _)
      rw [e0]
      exact hk
    · obtain ⟨e4, g4⟩ := e3.lay (o := .tup (cutV xs lo hi)) hp rfl
      exact ⟨_, g.trans g4, (e4.held (ta' := ta) fun p hp => List.mem_cons_of_mem _ hp).push ⟨p, _, rfl, .inl (.inl upd_same), RpL.mono g4.sub.exz e3.nz _ _ (rpl_cut s2 lo hi)⟩⟩
theorem ev_slS {lo hi : Option Int} {s : Str} (ha : EvD K te ro ka (.val (.str s)) k1) (h1 : EvO K tl ro k1 lo k2) (h2 : EvO K th ro k2 hi k3) (hs : s.length ≤ 100000) : EvD K (tSl (rSlU K) te tl th) ro ka (.val (.str (cutS s lo hi))) k3 := fun B F0 ta sg H Q e q =>
  ha B F0 ta sg H _ e fun u H1 e1 => h1 B F0 _ sg H1 _ e1 fun H2 e2 => h2 B F0 _ sg H2 _ e2 fun H3 e3 =>
    .inr (.inr ⟨s, e3.tm_str List.mem_cons_self, Nat.le_trans hs (by decide), q _ _ (e3.pop.push_imm fun _ => rfl)⟩)

end
end DL

/-! DS: statements, loops, contracts by data (own work). -/
namespace DL
open PySem L2

section
variable (K : PySem.W.Frag)
/-- from such a state P holds -/
def Gp (B F0 : Hp) (ta : List (V × W)) (P : L2.St → Hp → Prop) (ro : Ro) (ka : Cells) : Prop := ∀ sg H, En K B F0 ro ka ta sg H → P sg H
/-- how a call ends: with data, or an exception of a class, its own fields -/
inductive Out where
  | ret (d : D) | exc (C : Addr) (fs : List (Str × D)) | exc0 (C : Addr)
abbrev Ct := List W → Cells → (Out → Cells → Prop) → Prop
/-- what is wanted at a return -/
def RtOk (B F0 : Hp) (out : Out → Cells → Prop) (rt : VK) : Prop := ∀ d ka v H, out (.ret d) ka → En K B F0 [] ka [(v, .val d)] [] H → rt v H
def RxOk (B F0 : Hp) (out : Out → Cells → Prop) (E : XK) : Prop :=
  (∀ C fs ka dx H, out (.exc C fs) ka → En K B F0 [] (ka ++ [(dx, .xd fs)]) [] [] H → E (.ref C) (some dx) H) ∧
  ∀ C ka H, out (.exc0 C) ka → En K B F0 [] ka [] [] H → E (.ref C) none H
/-- the promise of a contract -/
def spC (C : Ct) : Sp := fun vs H Q E => ∃ B F args ka out, C args ka out ∧ vs.length = args.length ∧ En K B F [] ka (vs.zip args) [] H ∧ RtOk K B F out Q ∧ RxOk K B F out E
end

section
variable {K : PySem.W.Frag} {B F0 : Hp} {ro : Ro} {ka k1 k2 k3 : Cells} {ta : List (V × W)} {sg : L2.St} {H : Hp} {te tf tg : TE} {tl th : TO} {tr : TA} {tt : TT} {w x y z : W} {n : Nd} {r : R2} {De : Ends} {t u : TS} {P : L2.St → Hp → Prop}
theorem En.gp (e : En K B F0 ro ka ta sg H) (h : Gp K B F0 ta P ro ka) : P sg H := h sg H e
theorem En.set (e : En K B F0 ro ka ((v, w) :: ta) sg H) (i : Nat) : En K B F0 (ro.set i (some w)) ka ta (sg.set i (some v)) H :=
  let ⟨F, g, q⟩ := e
  ⟨F, g, (q.set (q.tm _ List.mem_cons_self) i).held fun _ h => List.mem_cons_of_mem _ h⟩
theorem En.setA (e : En K B F0 ro ka ta sg H) (i : Nat) (a : Addr) : En K B F0 (ro.set i (some (.val (.adr a)))) ka ta (sg.set i (some (.ref a))) H :=
  let ⟨F, g, q⟩ := e
  ⟨F, g, q.set (w := .val (.adr a)) rfl i⟩
theorem g_next (h : Gp K B F0 ta De.nx ro ka) : Gp K B F0 ta (tNext De) ro ka := h
theorem g_asg {i : Nat} (h : EvD K te ro ka w k1) (k : Gp K B F0 ta De.nx (ro.set i (some w)) k1) : Gp K B F0 ta (tAsg te (gName i) De) ro ka := fun sg H e => h B F0 ta sg H _ e fun v H1 e1 => k _ _ (e1.set i)
theorem g_asgN {i : Nat} (h : EvN K te ro ka n k1) (k : ∀ a, Gp K B F0 ta De.nx (ro.set i (some (.val (.adr a)))) (k1 ++ [(a, n)])) : Gp K B F0 ta (tAsg te (gName i) De) ro ka := fun sg H e => h B F0 ta sg H _ e fun a H1 e1 => k a _ _ (e1.setA i a)
theorem q_asg {i : Nat} (h : EvD K te ro ka w k1) (k : Gp K B F0 ta (u De) (ro.set i (some w)) k1) : Gp K B F0 ta (tSeq (tAsg te (gName i)) u De) ro ka := g_asg (De := { De with nx := u De }) h k
theorem q_asgN {i : Nat} (h : EvN K te ro ka n k1) (k : ∀ a, Gp K B F0 ta (u De) (ro.set i (some (.val (.adr a)))) (k1 ++ [(a, n)])) : Gp K B F0 ta (tSeq (tAsg te (gName i)) u De) ro ka := g_asgN (De := { De with nx := u De }) h k
theorem g_if {b : Bool} {u : TS} (h : EvT K tt ro ka b k1) (h1 : b = true → Gp K B F0 ta (t De) ro k1) (h2 : b = false → Gp K B F0 ta (u De) ro k1) : Gp K B F0 ta (tIfS tt t u De) ro ka := fun sg H e => h B F0 ta sg H _ e fun H1 e1 => by
  cases b with
  | true => exact h1 rfl _ _ e1
  | false => exact h2 rfl _ _ e1
/-- an if without else -/
theorem q_when {b : Bool} (h : EvT K tt ro ka b k1) (h1 : b = true → Gp K B F0 ta (t { De with nx := u De }) ro k1) (h2 : b = false → Gp K B F0 ta (u De) ro k1) : Gp K B F0 ta (tSeq (tIfS tt t tNext) u De) ro ka := g_if (De := { De with nx := u De }) h h1 h2
theorem En.leave (e : En K B F0 ro ka ((v, w) :: ta) sg H) : En K B F0 [] ka [(v, w)] [] H :=
  let ⟨F, g, q⟩ := e
  ⟨F, g, (q.frame (ro' := []) (sg' := []) rfl fun i w h => by simp at h).held fun p hp => by
    have : p = (v, w) := by simpa using hp
    rw [this]
    exact List.mem_cons_self⟩
theorem g_ret {out : Out → Cells → Prop} {d : D} {De : Ends} (hr : RtOk K B F0 out De.rt) (h : EvD K te ro ka (.val d) k1) (o : out (.ret d) k1) : Gp K B F0 ta (tRet te De) ro ka := fun sg H e => h B F0 ta sg H _ e fun v H1 e1 => hr d k1 v H1 o e1.leave
/-- the body's end without a return -/
theorem g_end {out : Out → Cells → Prop} {Q : VK} (hr : RtOk K B F0 out Q) (o : out (.ret .non) ka) : Gp K B F0 ta (fun _ H' => Q .non H') ro ka := fun sg H e => hr .non ka .non H o ((e.push_imm (v := .non) (w := .val .non) fun _ => rfl).leave)
/-! ### cells changed -/
theorem EnF.rd_lst {F : Hp} (e : EnF K B F ro ka ta sg H) {j : Nat} {a : Addr} {ds : List D} (hj : ka[j]? = some (a, .lst ds)) : ∃ xs, H a = some (.lst xs) ∧ RpL K F ds xs := (e.ce _ (List.mem_of_getElem? hj)).2.2
theorem g_app {j0 j : Nat} {a : Addr} {ds0 ds : List D} {d : D} {De : Ends} (ho : EvD K te ro ka (.val (.adr a)) k1) (h0 : k1[j0]? = some (a, .lst ds0)) (he : EvD K tf ro k1 (.val d) k2) (hj : k2[j]? = some (a, .lst ds)) (hz : ds.length < 100000)
    (k : Gp K B F0 ta De.nx ro (k2.set j (a, .lst (ds ++ [d])))) : Gp K B F0 ta (tDrop (tBM K "list" rAppend te (tCons tf tNil)) De) ro ka := fun sg H e => ho B F0 ta sg H _ e fun u H1 e1 => by
  have hu := e1.tm_adr List.mem_cons_self
  subst hu
  refine ⟨?_, he B F0 _ sg H1 _ e1 fun v H2 e2 => ?_⟩
  · obtain ⟨F, g, e1⟩ := e1
    obtain ⟨xs, hx, _⟩ := e1.rd_lst h0
    exact .inl ⟨rfl, xs, .inl (.inl hx)⟩
  · obtain ⟨F, g, e2⟩ := e2
    obtain ⟨xs, hx, rx⟩ := e2.rd_lst hj
    have hv := e2.tm _ List.mem_cons_self
    refine ⟨a, xs, v, rfl, rfl, hx, by rw [rpl_len rx]; exact Nat.lt_of_lt_of_le hz (by decide), k _ _ ⟨F, g, ?_⟩⟩
    exact (e2.write (o := .lst (xs ++ [v])) (n' := .lst (ds ++ [d])) hj ⟨_, upd_same, rpl_app rx ⟨v, [], rfl, hv, rfl⟩⟩).held fun p hp => List.mem_cons_of_mem _ (List.mem_cons_of_mem _ hp)
theorem q_app {j0 j : Nat} {a : Addr} {ds0 ds : List D} {d : D} {De : Ends} (ho : EvD K te ro ka (.val (.adr a)) k1) (h0 : k1[j0]? = some (a, .lst ds0)) (he : EvD K tf ro k1 (.val d) k2) (hj : k2[j]? = some (a, .lst ds)) (hz : ds.length < 100000)
    (k : Gp K B F0 ta (u De) ro (k2.set j (a, .lst (ds ++ [d])))) : Gp K B F0 ta (tSeq (tDrop (tBM K "list" rAppend te (tCons tf tNil))) u De) ro ka := g_app (De := { De with nx := u De }) ho h0 he hj hz k
/-- xs[i] = v -/
theorem g_seti {j : Nat} {a : Addr} {ds : List D} {d : D} {i : Int} {ix : Nat} {De : Ends} (he : EvD K tf ro ka (.val d) k1) (ho : EvD K te ro k1 (.val (.adr a)) k2) (hi : EvD K tg ro k2 (.val (.int i)) k3) (hj : k3[j]? = some (a, .lst ds)) (hx : ixN ds.length i = some ix)
    (k : Gp K B F0 ta De.nx ro (k3.set j (a, .lst (ds.set ix d)))) : Gp K B F0 ta (tAsg tf (gSub te tg rSetL) De) ro ka := fun sg H e => he B F0 ta sg H _ e fun v H1 e1 => ho B F0 _ sg H1 _ e1 fun u H2 e2 => hi B F0 _ sg H2 _ e2 fun i' H3 e3 => by
  have hu := e3.tm_adr (List.mem_cons_of_mem _ List.mem_cons_self)
  have hi' := e3.tm_int List.mem_cons_self
  subst hu hi'
  obtain ⟨F, g, e3⟩ := e3
  obtain ⟨xs, hxs, rx⟩ := e3.rd_lst hj
  have hv := e3.tm (v, .val d) (List.mem_cons_of_mem _ (List.mem_cons_of_mem _ List.mem_cons_self))
  refine ⟨a, xs, i, ix, rfl, rfl, hxs, by rw [rpl_len rx]; exact hx, k _ _ ⟨F, g, ?_⟩⟩
  exact (e3.write (o := .lst (xs.set ix v)) (n' := .lst (ds.set ix d)) hj ⟨_, upd_same, rpl_set ix rx hv⟩).held fun p hp => List.mem_cons_of_mem _ (List.mem_cons_of_mem _ (List.mem_cons_of_mem _ hp))
theorem q_seti {j : Nat} {a : Addr} {ds : List D} {d : D} {i : Int} {ix : Nat} {De : Ends} (he : EvD K tf ro ka (.val d) k1) (ho : EvD K te ro k1 (.val (.adr a)) k2) (hi : EvD K tg ro k2 (.val (.int i)) k3) (hj : k3[j]? = some (a, .lst ds)) (hx : ixN ds.length i = some ix)
    (k : Gp K B F0 ta (u De) ro (k3.set j (a, .lst (ds.set ix d)))) : Gp K B F0 ta (tSeq (tAsg tf (gSub te tg rSetL)) u De) ro ka := g_seti (De := { De with nx := u De }) he ho hi hj hx k

/-! ### what is walked -/
/-- wi walks through the items ws, while C holds of the cells -/
def EvI (K : PySem.W.Frag) (wi : TI) (ro : Ro) (ka : Cells) (ws : List W) (C : Cells → Prop) (ka' : Cells) : Prop := ∀ B F0 ta sg H (R : It → Hp → Prop), En K B F0 ro ka ta sg H →
  (∀ J ta' H', (∀ p ∈ ta, p ∈ ta') → En K B F0 ro ka' ta' sg H' →
    (∀ i w ro2 ka2 ta2 sg2 H2, ws[i]? = some w → C ka2 → (∀ p ∈ ta', p ∈ ta2) → En K B F0 ro2 ka2 ta2 sg2 H2 → J.go i H2 ∧ ∀ x H3, J.yld i H2 x H3 → En K B F0 ro2 ka2 ((x, w) :: ta2) sg2 H3) →
    (∀ i ro2 ka2 ta2 sg2 H2, ws.length ≤ i → C ka2 → (∀ p ∈ ta', p ∈ ta2) → En K B F0 ro2 ka2 ta2 sg2 H2 → J.stop i H2) → R J H') → wi sg H R
/-- the word between two turns -/
def Jp (K : PySem.W.Frag) (B F0 : Hp) (ta : List (V × W)) (Inv : Ro → Cells → Prop) : L2.St → Hp → Prop := fun sg H => ∃ ro ka, Inv ro ka ∧ En K B F0 ro ka ta sg H
theorem g_jp {Inv : Ro → Cells → Prop} (h : Inv ro ka) : Gp K B F0 ta (Jp K B F0 ta Inv) ro ka := fun sg H e => ⟨ro, ka, h, e⟩
theorem g_for {wi : TI} {ws : List W} {C : Cells → Prop} {g : TG} {tb : TS} {De : Ends} (h : EvI K wi ro ka ws C k1) (Inv : Nat → Ro → Cells → Prop) (h0 : Inv 0 ro k1) (hC : ∀ i ro2 ka2, Inv i ro2 ka2 → C ka2)
    (hs : ∀ i w ro2 ka2, ws[i]? = some w → Inv i ro2 ka2 → ∀ ta', Gp K B F0 ta' (fun sg H => ∀ x, En K B F0 ro2 ka2 ((x, w) :: ta') sg H → g x sg H fun sg2 H2 => tb { De with nx := Jp K B F0 ta' (Inv (i + 1)), ct := Jp K B F0 ta' (Inv (i + 1)), bk := De.nx } sg2 H2) ro2 ka2)
    (hd : ∀ ro2 ka2 ta', Inv ws.length ro2 ka2 → (∀ p ∈ ta, p ∈ ta') → Gp K B F0 ta' De.nx ro2 ka2) : Gp K B F0 ta (tFor wi g tb De) ro ka := fun sg H e =>
  h B F0 ta sg H _ e fun J ta' H1 hta e1 hgo hst => by
    refine ⟨fun i m sg H => m = ws.length - i ∧ i ≤ ws.length ∧ Jp K B F0 ta' (Inv i) sg H, ⟨ws.length, by simp, Nat.zero_le _, ro, k1, h0, e1⟩, ?_⟩
    rintro i m sg2 H2 ⟨rfl, hi, ro2, ka2, inv, e2⟩
    by_cases hlt : i < ws.length
    · obtain ⟨g1, g2⟩ := hgo i ws[i] ro2 ka2 ta' sg2 H2 (List.getElem?_eq_getElem hlt) (hC i ro2 ka2 inv) (fun p hp => hp) e2
      refine .inr ⟨g1, Jp K B F0 ta' (Inv (i + 1)), fun sg' H' q => ⟨ws.length - (i + 1), by omega, rfl, hlt, q⟩, fun x H3 y => ?_⟩
      have e3 := g2 x H3 y
      exact hs i ws[i] ro2 ka2 (List.getElem?_eq_getElem hlt) inv ta' sg2 H3 e3.pop x e3
    · have ei : i = ws.length := by omega
      subst ei
      exact .inl ⟨hst _ ro2 ka2 ta' sg2 H2 (Nat.le_refl _) (hC _ ro2 ka2 inv) (fun p hp => hp) e2, hd ro2 ka2 ta' inv hta sg2 H2 e2⟩
/-- .. the target a name -/
theorem g_forn {wi : TI} {ws : List W} {C : Cells → Prop} {j : Nat} {tb : TS} {De : Ends} (h : EvI K wi ro ka ws C k1) (Inv : Nat → Ro → Cells → Prop) (h0 : Inv 0 ro k1) (hC : ∀ i ro2 ka2, Inv i ro2 ka2 → C ka2)
    (hs : ∀ i w ro2 ka2 ta', ws[i]? = some w → Inv i ro2 ka2 → Gp K B F0 ta' (tb { De with nx := Jp K B F0 ta' (Inv (i + 1)), ct := Jp K B F0 ta' (Inv (i + 1)), bk := De.nx }) (ro2.set j (some w)) ka2)
    (hd : ∀ ro2 ka2 ta', Inv ws.length ro2 ka2 → (∀ p ∈ ta, p ∈ ta') → Gp K B F0 ta' De.nx ro2 ka2) : Gp K B F0 ta (tFor wi (gName j) tb De) ro ka :=
  g_for h Inv h0 hC (fun i w ro2 ka2 hw inv ta' sg H e x ex => hs i w ro2 ka2 ta' hw inv _ _ (ex.set j)) hd
theorem q_forn {wi : TI} {ws : List W} {C : Cells → Prop} {j : Nat} {tb : TS} {De : Ends} (h : EvI K wi ro ka ws C k1) (Inv : Nat → Ro → Cells → Prop) (h0 : Inv 0 ro k1) (hC : ∀ i ro2 ka2, Inv i ro2 ka2 → C ka2)
    (hs : ∀ i w ro2 ka2 ta', ws[i]? = some w → Inv i ro2 ka2 → Gp K B F0 ta' (tb { De with nx := Jp K B F0 ta' (Inv (i + 1)), ct := Jp K B F0 ta' (Inv (i + 1)), bk := u De }) (ro2.set j (some w)) ka2)
    (hd : ∀ ro2 ka2 ta', Inv ws.length ro2 ka2 → (∀ p ∈ ta, p ∈ ta') → Gp K B F0 ta' (u De) ro2 ka2) : Gp K B F0 ta (tSeq (tFor wi (gName j) tb) u De) ro ka := g_forn (De := { De with nx := u De }) h Inv h0 hC hs hd
/-- while: a word and a number that falls -/
theorem g_while {tb : TS} {De : Ends} (Inv : Nat → Ro → Cells → Prop) (m0 : Nat) (h0 : Inv m0 ro ka)
    (hs : ∀ m ro2 ka2, Inv m ro2 ka2 → ∃ b k2, EvT K tt ro2 ka2 b k2 ∧ (b = true → Gp K B F0 ta (tb { De with nx := Jp K B F0 ta (fun r k => ∃ m', m' < m ∧ Inv m' r k), ct := Jp K B F0 ta (fun r k => ∃ m', m' < m ∧ Inv m' r k), bk := De.nx }) ro2 k2) ∧ (b = false → Gp K B F0 ta De.nx ro2 k2)) :
    Gp K B F0 ta (tWhile tt tb De) ro ka := fun sg H e => by
  refine ⟨fun m sg H => Jp K B F0 ta (Inv m) sg H, ⟨m0, ro, ka, h0, e⟩, fun m sg2 H2 ⟨ro2, ka2, inv, e2⟩ => ?_⟩
  obtain ⟨b, k2, ht, h1, h2⟩ := hs m ro2 ka2 inv
  refine ht B F0 ta sg2 H2 _ e2 fun H3 e3 => ?_
  cases b with
  | true => exact ⟨_, fun sg' H' ⟨r, k, ⟨m', hm, inv'⟩, e'⟩ => ⟨m', hm, r, k, inv', e'⟩, h1 rfl _ _ e3⟩
  | false => exact h2 rfl _ _ e3
theorem q_while {tb : TS} {De : Ends} (Inv : Nat → Ro → Cells → Prop) (m0 : Nat) (h0 : Inv m0 ro ka)
    (hs : ∀ m ro2 ka2, Inv m ro2 ka2 → ∃ b k2, EvT K tt ro2 ka2 b k2 ∧ (b = true → Gp K B F0 ta (tb { De with nx := Jp K B F0 ta (fun r k => ∃ m', m' < m ∧ Inv m' r k), ct := Jp K B F0 ta (fun r k => ∃ m', m' < m ∧ Inv m' r k), bk := u De }) ro2 k2) ∧ (b = false → Gp K B F0 ta (u De) ro2 k2)) :
    Gp K B F0 ta (tSeq (tWhile tt tb) u De) ro ka := g_while (De := { De with nx := u De }) Inv m0 h0 hs

theorem ei_range1 {tr : TA} {m : Int} (h : EvA K tr ro ka [.val (.int m)] k1) (hm : m ≤ 1000000) (hm0 : -1000000 ≤ m) : EvI K (iRng1 tr) ro ka ((List.range m.toNat).map fun i : Nat => W.val (.int (i : Int))) (fun _ => True) k1 := fun B F0 ta sg H R e q =>
  h B F0 ta sg H _ e fun vs H1 hl e1 => by
    match vs, hl with
    | [v], _ =>
      have hv := e1.tm_int (v := v) (i := m) List.mem_cons_self
      subst hv
      refine ⟨m, rfl, by omega, by omega, q _ ta H1 (fun p hp => hp) (e1.held fun p hp => List.mem_append_right _ hp) (fun i w ro2 ka2 ta2 sg2 H2 hw _ _ e2 => ?_) fun i ro2 ka2 ta2 sg2 H2 hi _ _ _ => ?_⟩
      · rw [List.getElem?_map] at hw
        cases hi : (List.range m.toNat)[i]? with
        | none => rw [hi] at hw; cases hw
        | some j =>
          rw [hi] at hw
          obtain ⟨hlt, hj⟩ := List.getElem?_eq_some_iff.mp hi
          rw [List.getElem_range] at hj
          subst hj
          cases hw
          refine ⟨by show i < _; simpa using hlt, fun x H3 ⟨e3, ex⟩ => ?_⟩
          subst e3 ex
          exact e2.push_imm fun _ => by
            show V.int (0 + (i : Int)) = V.int (i : Int)
            rw [Int.zero_add]
      · rw [List.length_map, List.length_range] at hi
        exact hi
end

/-! ### any sequence walked -/
/-- lists, tuples, texts -/
def iSeq (K : PySem.W.Frag) (tl : TE) : TI := fun sg H R => iList K tl sg H R ∨ iTup K tl sg H R ∨ iStr tl sg H R
theorem pi_seq {X : Cx} {tg : Expr} {l : Expr} {tl : TE} (hl : PE X l tl) : PI X tg l (iSeq X.K tl) :=
  ⟨fun pins s sg H R I h => h.elim ((pi_list hl).run pins s sg H R I) fun h => h.elim ((pi_tup hl).run pins s sg H R I) ((pi_str hl).run pins s sg H R I)⟩
section
variable {K : PySem.W.Frag} {ro : Ro} {ka k1 : Cells} {te : TE} {w : W}
/-- the cell that is walked stays -/
def Stay (w : W) (ds : List D) (ka : Cells) : Prop := match w with
  | .val (.adr a) => (a, Nd.lst ds) ∈ ka
  | _ => True
theorem Lk.mono {ka : Cells} {t b : Bool} {ds : List D} (l : Lk ka w t ds b) (ka2 : Cells) (h : Stay w ds ka2) : Lk ka2 w t ds b := by
  cases l with
  | vl => exact .vl
  | vt => exact .vt
  | wl => exact .wl
  | wt => exact .wt
  | ce j hj =>
    obtain ⟨j2, h2⟩ := List.getElem?_of_mem h
    exact .ce j2 h2
theorem ei_seq {t b : Bool} {ds : List D} (h : EvD K te ro ka w k1) (l : Lk k1 w t ds b) : EvI K (iSeq K te) ro ka (ds.map (part b)) (Stay w ds) k1 := fun B F0 ta sg H R e q => by
  have again : ∀ (a : Addr) ro2 ka2 ta2 sg2 H2, Stay w ds ka2 → (V.ref a, w) ∈ ta2 → En K B F0 ro2 ka2 ta2 sg2 H2 → ∃ F ys, EnF K B F ro2 ka2 ta2 sg2 H2 ∧ Gr B F0 F ∧ SqB K t H2 a ys ∧ RpL K (if b then uni B F else F) ds ys := fun a ro2 ka2 ta2 sg2 H2 hs hm e2 => by
    obtain ⟨F, g, e2⟩ := e2
    obtain ⟨a', ys, e', s2, r2⟩ := (l.mono ka2 hs).get e2 (e2.tm _ hm)
    cases e'
    exact ⟨F, ys, e2, g, s2, r2⟩
  have item : ∀ {i : Nat} {w2 : W} {F : Hp} {ys : List V}, (ds.map (part b))[i]? = some w2 → RpL K (if b then uni B F else F) ds ys → ∃ y, ys[i]? = some y ∧ WOk K B F y w2 := fun {i w2 F ys} hw r2 => by
    rw [List.getElem?_map] at hw
    cases hd : ds[i]? with
    | none => rw [hd] at hw; cases hw
    | some d =>
      rw [hd] at hw
      cases hw
      obtain ⟨y, hy, ry⟩ := rpl_get r2 hd
      exact ⟨y, hy, wok_part b ry⟩
  cases t with
  | true =>
    refine .inr (.inl (h B F0 ta sg H _ e fun v H1 e1 => ?_))
    obtain ⟨F, g, ef⟩ := id e1
    obtain ⟨a, xs, rfl, s1, r1⟩ := l.get ef (ef.tm _ List.mem_cons_self)
    refine ⟨a, rfl, ⟨xs, s1⟩, q _ ((.ref a, w) :: ta) H1 (fun p hp => List.mem_cons_of_mem _ hp) e1 (fun i w2 ro2 ka2 ta2 sg2 H2 hw hs hm e2 => ?_) fun i ro2 ka2 ta2 sg2 H2 hi hs hm e2 => ?_⟩
    · obtain ⟨F2, ys, ef2, g2, s2, r2⟩ := again a ro2 ka2 ta2 sg2 H2 hs (hm _ List.mem_cons_self) e2
      obtain ⟨y, hy, wy⟩ := item hw r2
      refine ⟨⟨ys, y, s2, hy⟩, fun x H3 ⟨e3, ex⟩ => ?_⟩
      subst e3
      have h5 := ex ys s2
      rw [hy] at h5
      cases h5
      exact ⟨F2, g2, ef2.push wy⟩
    · obtain ⟨F2, ys, ef2, g2, s2, r2⟩ := again a ro2 ka2 ta2 sg2 H2 hs (hm _ List.mem_cons_self) e2
      refine ⟨ys, s2, ?_⟩
      rw [rpl_len r2]
      rwa [List.length_map] at hi
  | false =>
    refine .inl (h B F0 ta sg H _ e fun v H1 e1 => ?_)
    obtain ⟨F, g, ef⟩ := id e1
    obtain ⟨a, xs, rfl, s1, r1⟩ := l.get ef (ef.tm _ List.mem_cons_self)
    refine ⟨a, rfl, ⟨xs, .inl s1⟩, q _ ((.ref a, w) :: ta) H1 (fun p hp => List.mem_cons_of_mem _ hp) e1 (fun i w2 ro2 ka2 ta2 sg2 H2 hw hs hm e2 => ?_) fun i ro2 ka2 ta2 sg2 H2 hi hs hm e2 => ?_⟩
    · obtain ⟨F2, ys, ef2, g2, s2, r2⟩ := again a ro2 ka2 ta2 sg2 H2 hs (hm _ List.mem_cons_self) e2
      obtain ⟨y, hy, wy⟩ := item hw r2
      refine ⟨⟨ys, y, .inl s2, hy⟩, fun x H3 ⟨e3, ex⟩ => ?_⟩
      subst e3
      have h5 := ex ys (.inl s2)
      rw [hy] at h5
      cases h5
      exact ⟨F2, g2, ef2.push wy⟩
    · obtain ⟨F2, ys, ef2, g2, s2, r2⟩ := again a ro2 ka2 ta2 sg2 H2 hs (hm _ List.mem_cons_self) e2
      refine ⟨ys, .inl s2, ?_⟩
      rw [rpl_len r2]
      rwa [List.length_map] at hi
theorem ei_str {s : Str} (h : EvD K te ro ka (.val (.str s)) k1) : EvI K (iSeq K te) ro ka (s.cps.toList.map fun c => W.val (.str ⟨#[c]⟩)) (fun _ => True) k1 := fun B F0 ta sg H R e q =>
  .inr (.inr (h B F0 ta sg H _ e fun v H1 e1 => by
    have hv := e1.tm_str List.mem_cons_self
    subst hv
    refine ⟨s, rfl, q _ ta H1 (fun p hp => hp) e1.pop (fun i w2 ro2 ka2 ta2 sg2 H2 hw _ hm e2 => ?_) fun i ro2 ka2 ta2 sg2 H2 hi _ hm e2 => ?_⟩
    · rw [List.getElem?_map] at hw
      cases hd : s.cps.toList[i]? with
      | none => rw [hd] at hw; cases hw
      | some c =>
        rw [hd] at hw
        cases hw
        have hc : s.cps[i]? = some c := by simpa using hd
        refine ⟨(Array.getElem?_eq_some_iff.mp hc).1, fun x H3 ⟨e3, c', hc', ex⟩ => ?_⟩
        subst e3 ex
        rw [hc] at hc'
        cases hc'
        exact e2.push_imm fun _ => rfl
    · show s.cps.size ≤ i
      simpa using hi))
end
end DL

/-! DT: frames, calls, comprehensions by data (own work). -/
namespace DL
open PySem L2

section
variable {K : PySem.W.Frag} {B B' F F' F0 : Hp} {ro : Ro} {ka k1 k2 k3 kr : Cells} {ta : List (V × W)} {sg : L2.St} {H H' : Hp} {te tf tg : TE} {tl th : TO} {tr : TA} {tt : TT} {w x y z : W} {n : Nd}

/-- H without the cells of kf -/
def off (H : Hp) (kf : Cells) : Hp := fun a => if a ∈ kf.map (·.1) then none else H a
theorem off_in {kf : Cells} {a : Addr} (h : a ∈ kf.map (·.1)) : off H kf a = none := if_pos h
theorem off_out {kf : Cells} {a : Addr} (h : a ∉ kf.map (·.1)) : off H kf a = H a := if_neg h
theorem off_some {kf : Cells} {a : Addr} {o : HO} (h : off H kf a = some o) : a ∉ kf.map (·.1) ∧ H a = some o := by
  unfold off at h
  split at h
  · cases h
  · rename_i q
    exact ⟨q, h⟩
theorem EnF.sub_off (e : EnF K B F ro ka ta sg H) {kf : Cells} (hk : ∀ p ∈ kf, p ∈ ka) : Sub B (off H kf) := fun a o h => by
  have na : a ∉ kf.map (·.1) := fun hm => by
    obtain ⟨p, hp, rfl⟩ := List.mem_map.mp hm
    have := (e.ce p (hk p hp)).2.1
    rw [this] at h
    cases h
  rw [off_out na]
  exact e.fr a o h
theorem uni_subB {B B' F : Hp} (h : Sub B B') : Sub (uni B F) (uni B' F) := fun a u q => by
  unfold uni at q ⊢
  cases hf : F a with
  | some o => rw [hf] at q; exact q
  | none =>
    rw [hf] at q
    cases hb : B a with
    | none => rw [hb] at q; cases q
    | some o => rw [hb] at q; rw [h a o hb]; exact q
theorem wok_subB (n : Nz F) (h : Sub B B') {v : V} {w : W} (q : WOk K B F v w) : WOk K B' F v w := by
  cases w with
  | val d => exact q
  | vw d => exact Rp.mono (uni_subB h).exz (uni_nz n) d v q
/-- the part of a state that a part of the text works on: the cells kf, all else as it stands -/
theorem EnF.into (e : EnF K B F ro (ka ++ kr) ta sg H) {ro' : Ro} {sg' : L2.St} {ta' : List (V × W)} (hl : sg'.length = ro'.length) (hs : ∀ (i : Nat) w, ro'[i]? = some (some w) → ∃ v, sg'[i]? = some (some v) ∧ WOk K B F v w) (ht : ∀ p ∈ ta', p ∈ ta) :
    EnF K (off H ka) F ro' ka ta' sg' H := by
  have hsub : Sub B (off H ka) := e.sub_off fun p hp => List.mem_append_left _ hp
  have nd := e.nd
  rw [List.map_append, List.nodup_append] at nd
  refine ⟨e.nz, e.fz, fun a o h => (off_some h).2, nd.1, fun p hp => ?_, hl, fun i w h => ?_, fun p hp => wok_subB e.nz hsub (e.tm p (ht p hp))⟩
  · obtain ⟨h1, h2, h3⟩ := e.ce p (List.mem_append_left _ hp)
    exact ⟨h1, off_in (List.mem_map.mpr ⟨p, hp, rfl⟩), h3⟩
  · obtain ⟨v, h1, h2⟩ := hs i w h
    exact ⟨v, h1, wok_subB e.nz hsub h2⟩
/-- .. and back -/
theorem EnF.back (e : EnF K B F ro (ka ++ kr) ta sg H) (g : Gr (off H ka) F F') {ro' : Ro} {sg' : L2.St} {ta' : List (V × W)} (e' : EnF K (off H ka) F' ro' k2 ta' sg' H') {tb : List (V × W)} (hb : ∀ p ∈ tb, p ∈ ta ∨ ∃ d, p.2 = .val d ∧ p ∈ ta') :
    Gr B F F' ∧ EnF K B F' ro (k2 ++ kr) tb sg H' := by
  have hsub : Sub B (off H ka) := e.sub_off fun p hp => List.mem_append_left _ hp
  have gg : Gr B F F' := ⟨g.sub, fun a h1 h2 => g.off a h1 fun q => by
    cases hb2 : B a with
    | none => exact h2 hb2
    | some o => rw [hsub a o hb2] at q; cases q⟩
  have nd := e.nd
  rw [List.map_append, List.nodup_append] at nd
  -- the cells that were left stand off what was worked on
  have left : ∀ p ∈ kr, off H ka p.1 ≠ none ∧ H' p.1 = H p.1 := fun p hp => by
    obtain ⟨h1, h2, h3⟩ := e.ce p (List.mem_append_right _ hp)
    have hn : p.1 ∉ ka.map (·.1) := fun hm => nd.2.2 _ hm _ (List.mem_map.mpr ⟨p, hp, rfl⟩) rfl
    cases q : H p.1 with
    | none => exact absurd q (ndok_ne h3)
    | some o =>
      have ho : off H ka p.1 = some o := by rw [off_out hn]; exact q
      exact ⟨by rw [ho]; exact fun z => (by cases z), e'.fr _ _ ho⟩
  refine ⟨gg, e'.nz, e'.fz, hsub.trans e'.fr, ?_, fun p hp => ?_, e.ln, fun i w h => ?_, fun p hp => ?_⟩
  · rw [List.map_append, List.nodup_append]
    refine ⟨e'.nd, nd.2.1, fun a ha b hb => ?_⟩
    obtain ⟨p, hp, rfl⟩ := List.mem_map.mp ha
    obtain ⟨q, hq, rfl⟩ := List.mem_map.mp hb
    intro z
    exact (left q hq).1 (z ▸ (e'.ce p hp).2.1)
  · rcases List.mem_append.mp hp with hp | hp
    · obtain ⟨h1, h2, h3⟩ := e'.ce p hp
      refine ⟨h1, ?_, h3⟩
      cases q : B p.1 with
      | none => rfl
      | some o => rw [hsub _ _ q] at h2; cases h2
    · obtain ⟨h1, h2, h3⟩ := e.ce p (List.mem_append_right _ hp)
      obtain ⟨l1, l2⟩ := left p hp
      exact ⟨g.off _ h1 l1, h2, ndok_at l2 (ndok_gr e.nz gg h3)⟩
  · obtain ⟨v, h1, h2⟩ := e.sl i w h
    exact ⟨v, h1, wok_gr e.nz gg h2⟩
  · rcases hb p hp with q | ⟨d, hd, q⟩
    · exact wok_gr e.nz gg (e.tm p q)
    · have h2 := e'.tm p q
      rw [hd] at h2 ⊢
      exact h2

/-! ### frames -/
theorem EvD.fr {d : D} (h : EvD K te ro ka (.val d) k2) (kr : Cells) : EvD K te ro (ka ++ kr) (.val d) (k2 ++ kr) := fun B F0 ta sg H Q e q => by
  obtain ⟨F, g, e⟩ := e
  refine h (off H ka) F ta sg H Q ⟨F, Gr.refl _ _, e.into e.ln e.sl fun p hp => hp⟩ fun v H' ⟨F', g', e'⟩ => ?_
  obtain ⟨g2, e2⟩ := e.back g' e' (tb := (v, .val d) :: ta) fun p hp => by
    rcases List.mem_cons.mp hp with rfl | hp
    · exact .inr ⟨d, rfl, List.mem_cons_self⟩
    · exact .inl hp
  exact q v H' ⟨F', g.trans g2, e2⟩
theorem EvT.fr {b : Bool} (h : EvT K tt ro ka b k2) (kr : Cells) : EvT K tt ro (ka ++ kr) b (k2 ++ kr) := fun B F0 ta sg H Q e q => by
  obtain ⟨F, g, e⟩ := e
  refine h (off H ka) F ta sg H Q ⟨F, Gr.refl _ _, e.into e.ln e.sl fun p hp => hp⟩ fun H' ⟨F', g', e'⟩ => ?_
  obtain ⟨g2, e2⟩ := e.back g' e' (tb := ta) fun p hp => .inl hp
  exact q H' ⟨F', g.trans g2, e2⟩
theorem En.perm (e : En K B F0 ro ka ta sg H) (h : k1.Perm ka) : En K B F0 ro k1 ta sg H :=
  let ⟨F, g, q⟩ := e
  ⟨F, g, q.perm h⟩
theorem EvN.fr {m : Nd} (h : EvN K te ro ka m k2) (kr : Cells) : EvN K te ro (ka ++ kr) m (k2 ++ kr) := fun B F0 ta sg H Q e q => by
  obtain ⟨F, g, e⟩ := e
  refine h (off H ka) F ta sg H Q ⟨F, Gr.refl _ _, e.into e.ln e.sl fun p hp => hp⟩ fun a H' ⟨F', g', e'⟩ => ?_
  obtain ⟨g2, e2⟩ := e.back g' e' (tb := ta) fun p hp => .inl hp
  refine q a H' ⟨F', g.trans g2, e2.perm ?_⟩
  rw [List.append_assoc, List.append_assoc]
  exact List.Perm.append_left _ List.perm_append_comm

/-! ### calls -/
/-- a call that comes back -/
theorem sp_ret {C : Ct} {ws : List W} {out : Out → Cells → Prop} {vs : List V} {E : XK} {Q : VK} {d : D} (e : En K B F0 ro (ka ++ kr) (vs.zip ws ++ ta) sg H) (hl : vs.length = ws.length) (hC : C ws ka out) (ho : ∀ o k, out o k → o = .ret d ∧ k = k2)
    (q : ∀ v H', En K B F0 ro (k2 ++ kr) ((v, .val d) :: ta) sg H' → Q v H') : spC K C vs H Q E := by
  obtain ⟨F, g, e⟩ := e
  refine ⟨off H ka, F, ws, ka, out, hC, hl, ⟨F, Gr.refl _ _, e.into (ro' := []) (sg' := []) (ta' := vs.zip ws) rfl (fun i w h => by simp at h) fun p hp => List.mem_append_left _ hp⟩, fun d' k v H' o ⟨F', g', e'⟩ => ?_, fun C fs k dx H' o _ => ?_, fun C k H' o _ => ?_⟩
  · obtain ⟨hd, rfl⟩ := ho _ _ o
    cases hd
    obtain ⟨g2, e2⟩ := e.back g' e' (tb := (v, .val d) :: ta) fun p hp => by
      rcases List.mem_cons.mp hp with rfl | hp
      · exact .inr ⟨d, rfl, List.mem_cons_self⟩
      · exact .inl (List.mem_append_right _ hp)
    exact q v H' ⟨F', g.trans g2, e2⟩
  · have := (ho _ _ o).1
    cases this
  · have := (ho _ _ o).1
    cases this
theorem ev_call {C : Ct} {ws : List W} {out : Out → Cells → Prop} {E : XK} {d : D} (ha : EvA K tr ro ka ws k1) (hC : C ws k1 out) (ho : ∀ o k, out o k → o = .ret d ∧ k = k2) : EvD K (tCall (spC K C) [] E tr) ro ka (.val d) k2 := fun B F0 ta sg H Q e q =>
  ha B F0 ta sg H _ e fun vs H1 hl e1 => by
    rw [List.append_nil]
    have e1' : En K B F0 ro (k1 ++ []) (vs.zip ws ++ ta) sg H1 := by rw [List.append_nil]; exact e1
    exact sp_ret e1' hl hC ho fun v H' e2 => q v H' (by rw [List.append_nil] at e2; exact e2)
/-- .. the cells that it works on ahead of others -/
theorem ev_callF {C : Ct} {ws : List W} {out : Out → Cells → Prop} {E : XK} {d : D} (kr : Cells) (ha : EvA K tr ro ka ws (k1 ++ kr)) (hC : C ws k1 out) (ho : ∀ o k, out o k → o = .ret d ∧ k = k2) : EvD K (tCall (spC K C) [] E tr) ro ka (.val d) (k2 ++ kr) := fun B F0 ta sg H Q e q =>
  ha B F0 ta sg H _ e fun vs H1 hl e1 => by
    rw [List.append_nil]
    exact sp_ret e1 hl hC ho q
/-! ### comprehensions -/
def wipeR (ro : Ro) : List Nat → Ro
  | [] => ro
  | v :: vs => (wipeR ro vs).set v none
theorem wipe_en : ∀ {vs : List Nat}, EnF K B F ro ka ta sg H → EnF K B F (wipeR ro vs) ka ta (wipe sg vs) H
  | [], e => e
  | v :: vs, e => by
    have e1 := wipe_en (vs := vs) e
    refine e1.frame (by show (List.set _ _ _).length = (List.set _ _ _).length; rw [List.length_set, List.length_set, e1.ln]) fun i w h => ?_
    show ∃ v', ((wipe sg vs).set v none)[i]? = some (some v') ∧ _
    have h' : ((wipeR ro vs).set v none)[i]? = some (some w) := h
    by_cases hi : v = i
    · subst hi
      have hlt : v < (wipeR ro vs).length := by
        have := (List.getElem?_eq_some_iff.mp h').1
        rwa [List.length_set] at this
      rw [List.getElem?_set_self hlt] at h'
      cases h'
    · rw [List.getElem?_set_ne hi] at h' ⊢
      exact e1.sl i w h'
theorem wipe_set (sg : L2.St) (vs : List Nat) {j : Nat} (hj : j ∈ vs) (v : V) : wipe ((wipe sg vs).set j (some v)) vs = wipe sg vs := by
  have key : ∀ (vs : List Nat) (s t : L2.St), s.length = t.length → (∀ i : Nat, i ∉ vs → s[i]? = t[i]?) → wipe s vs = wipe t vs := by
    intro vs
    induction vs with
    | nil =>
      intro s t hl h
      exact List.ext_getElem? fun i => h i (by simp)
    | cons a vs ih =>
      intro s t hl h
      show (wipe s vs).set a none = (wipe t vs).set a none
      apply List.ext_getElem?
      intro i
      by_cases hi : a = i
      · subst hi
        rw [List.getElem?_set, List.getElem?_set, wipe_length, wipe_length, hl, if_pos rfl, if_pos rfl]
      · rw [List.getElem?_set_ne hi, List.getElem?_set_ne hi]
        have gen : ∀ (vs : List Nat) (s t : L2.St), s.length = t.length → ∀ i : Nat, s[i]? = t[i]? → (wipe s vs)[i]? = (wipe t vs)[i]? := by
          intro vs
          induction vs with
          | nil => intro s t _ i h; exact h
          | cons b vs ih2 =>
            intro s t hl i h
            show ((wipe s vs).set b none)[i]? = ((wipe t vs).set b none)[i]?
            rw [List.getElem?_set, List.getElem?_set, wipe_length, wipe_length, hl, ih2 s t hl i h]
        by_cases hv : i ∈ vs
        · have wn : ∀ (vs : List Nat) (s : L2.St) (i : Nat), i ∈ vs → i < s.length → (wipe s vs)[i]? = some none := by
            intro vs
            induction vs with
            | nil => intro s i h; simp at h
            | cons b vs ih2 =>
              intro s i h hlt
              show ((wipe s vs).set b none)[i]? = some none
              by_cases hb : b = i
              · subst hb
                rw [List.getElem?_set_self (by rw [wipe_length]; exact hlt)]
              · rw [List.getElem?_set_ne hb]
                rcases List.mem_cons.mp h with q | q
                · exact absurd q.symm hb
                · exact ih2 s i q hlt
          by_cases hlt : i < s.length
          · rw [wn vs s i hv hlt, wn vs t i hv (hl ▸ hlt)]
          · rw [List.getElem?_eq_none (by rw [wipe_length]; omega), List.getElem?_eq_none (by rw [wipe_length]; omega)]
        · exact gen vs s t hl i (h i (by simp [Ne.symm hi, hv]))
  have idem : ∀ (vs : List Nat) (s : L2.St), wipe (wipe s vs) vs = wipe s vs := fun vs s => key vs _ _ (wipe_length _ _) fun i hi => by
    have gen : ∀ (us : List Nat) (s : L2.St), i ∉ us → (wipe s us)[i]? = s[i]? := by
      intro us
      induction us with
      | nil => intro s _; rfl
      | cons b us ih2 =>
        intro s h
        show ((wipe s us).set b none)[i]? = s[i]?
        rw [List.getElem?_set_ne (fun q => h (by simp [q])), ih2 s fun q => h (List.mem_cons_of_mem _ q)]
    exact gen vs s hi
  have e1 : wipe ((wipe sg vs).set j (some v)) vs = wipe (wipe sg vs) vs := key vs _ _ (by rw [List.length_set]) fun i hi => by
    have hne : j ≠ i := fun q => hi (q ▸ hj)
    exact List.getElem?_set_ne hne
  rw [e1, idem]
/-- a new cell of which R tells -/
def EvNR (K : PySem.W.Frag) (te : TE) (ro : Ro) (ka : Cells) (R : Nd → Cells → Prop) : Prop := ∀ B F0 ta sg H (Q : VK), En K B F0 ro ka ta sg H → (∀ n k a H', R n k → En K B F0 ro (k ++ [(a, n)]) ta sg H' → Q (.ref a) H') → te sg H Q
/-- [e for x in .. if ..]: what is told of the list -/
theorem evr_lc {wi : TI} {ws : List W} {C : Cells → Prop} {j : Nat} {vs : List Nat} (h : EvI K wi ro ka ws C k1) (hj : j ∈ vs) (hn : ws.length ≤ 1000000) (Inv : Nat → List D → Cells → Prop) (h0 : Inv 0 [] k1) (hC : ∀ i acc k, Inv i acc k → C k ∧ ∀ x, C (k ++ [x]))
    (hs : ∀ i w acc k, ws[i]? = some w → Inv i acc k → (∃ k2, EvT K tt ((wipeR ro vs).set j (some w)) k false k2 ∧ Inv (i + 1) acc k2) ∨ ∃ k2 k3 d, EvT K tt ((wipeR ro vs).set j (some w)) k true k2 ∧ EvD K te ((wipeR ro vs).set j (some w)) k2 (.val d) k3 ∧ Inv (i + 1) (acc ++ [d]) k3)
    : EvNR K (tLc wi (gName j) tt te vs) ro ka (fun n k => ∃ acc, n = .lst acc ∧ Inv ws.length acc k) := fun B F0 ta sg H Q e q =>
  h B F0 ta sg H _ e fun J ta' H1 hta e1 hgo hst => fun Dl hD => by
    -- the word: the list so far is the last cell
    let P : Nat → Hp → Prop := fun i H => ∃ acc k, Inv i acc k ∧ acc.length ≤ i ∧ En K B F0 ro (k ++ [(Dl, .lst acc)]) ta' sg H
    have p0 : P 0 (upd H1 Dl (.lst [])) := by
      obtain ⟨F, g, e1⟩ := e1
      exact ⟨[], k1, h0, Nat.le_refl _, F, g, e1.cell (o := .lst []) hD (n := .lst []) ⟨[], upd_same, rfl⟩⟩
    refine ⟨fun i m H => m = ws.length - i ∧ i ≤ ws.length ∧ P i H, ⟨ws.length, by simp, Nat.zero_le _, p0⟩, ?_⟩
    rintro i m H2 ⟨rfl, hi, acc, k, inv, hlen, e2⟩
    by_cases hlt : i < ws.length
    · have hw := List.getElem?_eq_getElem hlt
      obtain ⟨g1, g2⟩ := hgo i ws[i] ro (k ++ [(Dl, .lst acc)]) ta' sg H2 hw ((hC i acc k inv).2 _) (fun p hp => hp) e2
      refine .inr ⟨g1, P (i + 1), fun H' p => ⟨ws.length - (i + 1), by omega, rfl, hlt, p⟩, fun x H3 y => ?_⟩
      have e3 := g2 x H3 y
      refine ⟨wipe_set sg vs hj x, ?_⟩
      -- within the block
      have e4 : En K B F0 ((wipeR ro vs).set j (some ws[i])) (k ++ [(Dl, .lst acc)]) ta' ((wipe sg vs).set j (some x)) H3 := by
        obtain ⟨F, g, e3⟩ := e3
        exact ⟨F, g, ((wipe_en (vs := vs) e3).set (e3.tm _ List.mem_cons_self) j).held fun p hp => List.mem_cons_of_mem _ hp⟩
      -- and back out of it
      have out : ∀ {k : Cells} {ta2 : List (V × W)} {H : Hp}, (∃ F, Gr B F0 F ∧ EnF K B F ((wipeR ro vs).set j (some ws[i])) k ta2 ((wipe sg vs).set j (some x)) H ∧ ∀ (a : Nat) w, ro[a]? = some (some w) → ∃ v, sg[a]? = some (some v) ∧ WOk K B F v w) → En K B F0 ro k ta2 sg H := fun ⟨F, g, q, hs⟩ => ⟨F, g, q.frame (by obtain ⟨_, _, e0⟩ := e; exact e0.ln) hs⟩
      obtain ⟨F3, gF3, eF3⟩ := e3
      have slots : ∀ {F : Hp}, Gr B F3 F → ∀ (a : Nat) w, ro[a]? = some (some w) → ∃ v, sg[a]? = some (some v) ∧ WOk K B F v w := fun {F} g a w ha => by
        obtain ⟨v, h1, h2⟩ := eF3.sl a w ha
        exact ⟨v, h1, wok_gr eF3.nz g h2⟩
      have e4' : En K B F3 ((wipeR ro vs).set j (some ws[i])) (k ++ [(Dl, .lst acc)]) ta' ((wipe sg vs).set j (some x)) H3 :=
        ⟨F3, Gr.refl _ _, ((wipe_en (vs := vs) eF3).set (eF3.tm _ List.mem_cons_self) j).held fun p hp => List.mem_cons_of_mem _ hp⟩
      rcases hs i ws[i] acc k hw inv with ⟨k2, t1, inv2⟩ | ⟨k2, k3, d, t1, t2, inv2⟩
      · refine t1.fr [(Dl, .lst acc)] B F3 ta' _ H3 _ e4' fun H4 ⟨F4, g4, e5⟩ => ?_
        exact ⟨acc, k2, inv2, Nat.le_succ_of_le hlen, out ⟨F4, gF3.trans g4, e5, slots g4⟩⟩
      · refine t1.fr [(Dl, .lst acc)] B F3 ta' _ H3 _ e4' fun H4 e5 => ?_
        refine t2.fr [(Dl, .lst acc)] B F3 ta' _ H4 _ e5 fun v H5 ⟨F5, g5, e6⟩ => ?_
        have hx : (k3 ++ [(Dl, Nd.lst acc)])[k3.length]? = some (Dl, Nd.lst acc) := by simp
        obtain ⟨xs, h1, h2⟩ := e6.rd_lst hx
        have hv := e6.tm _ List.mem_cons_self
        have e7 := e6.write (o := .lst (xs ++ [v])) (n' := .lst (acc ++ [d])) hx ⟨_, upd_same, rpl_app h2 ⟨v, [], rfl, hv, rfl⟩⟩
        have hset : (k3 ++ [(Dl, Nd.lst acc)]).set k3.length (Dl, Nd.lst (acc ++ [d])) = k3 ++ [(Dl, Nd.lst (acc ++ [d]))] := by
          rw [List.set_append_right _ _ (Nat.le_refl _)]
          simp
        rw [hset] at e7
        refine ⟨xs, h1, by rw [rpl_len h2]; exact Nat.lt_of_le_of_lt (Nat.le_trans hlen (Nat.le_trans hi hn)) (by decide), acc ++ [d], k3, inv2, by rw [List.length_append]; exact Nat.succ_le_succ hlen, ?_⟩
        exact out ⟨F5, gF3.trans g5, e7.held fun p hp => List.mem_cons_of_mem _ hp, slots g5⟩
    · have ei : i = ws.length := by omega
      subst ei
      refine .inl ⟨hst _ ro (k ++ [(Dl, .lst acc)]) ta' sg H2 (Nat.le_refl _) ((hC _ acc k inv).2 _) (fun p hp => hp) e2, ?_⟩
      exact q _ _ Dl H2 ⟨acc, rfl, inv⟩ (e2.held hta)
/-- [e for x in .. if ..] -/
theorem evn_lc {wi : TI} {ws : List W} {C : Cells → Prop} {j : Nat} {vs : List Nat} (h : EvI K wi ro ka ws C k1) (hj : j ∈ vs) (hn : ws.length ≤ 1000000) (Inv : Nat → List D → Cells → Prop) (h0 : Inv 0 [] k1) (hC : ∀ i acc k, Inv i acc k → C k ∧ ∀ x, C (k ++ [x]))
    (hs : ∀ i w acc k, ws[i]? = some w → Inv i acc k → (∃ k2, EvT K tt ((wipeR ro vs).set j (some w)) k false k2 ∧ Inv (i + 1) acc k2) ∨ ∃ k2 k3 d, EvT K tt ((wipeR ro vs).set j (some w)) k true k2 ∧ EvD K te ((wipeR ro vs).set j (some w)) k2 (.val d) k3 ∧ Inv (i + 1) (acc ++ [d]) k3)
    {ds : List D} {kz : Cells} (hd : ∀ acc k, Inv ws.length acc k → acc = ds ∧ k = kz) : EvN K (tLc wi (gName j) tt te vs) ro ka (.lst ds) kz := fun B F0 ta sg H Q e q => evr_lc h hj hn Inv h0 hC hs B F0 ta sg H Q e fun n k a H' ⟨acc, hn', inv⟩ e' => by
  subst hn'
  obtain ⟨rfl, rfl⟩ := hd acc k inv
  exact q a H' e'
end
end DL

/-! DE: equality of data (own work). -/
namespace DL
open PySem L2 PySem.SeqAt

mutual
def eqD : D → D → Bool
  | .non, .non => true
  | .bl a, .bl b => a == b
  | .bl a, .int j => (if a then 1 else 0) == j
  | .int i, .bl b => i == (if b then 1 else 0)
  | .int i, .int j => i == j
  | .str x, .str y => x == y
  | .lst xs, .lst ys => eqL xs ys
  | .tup xs, .tup ys => eqL xs ys
  | _, _ => false
def eqL : List D → List D → Bool
  | [], [] => true
  | x :: xs, y :: ys => eqD x y && eqL xs ys
  | _, _ => false
end
/-- plain data: numbers, texts, lists and tuples of these, at most n deep -/
def pl : Nat → D → Bool
  | _, .non => true
  | _, .bl _ => true
  | _, .int _ => true
  | _, .str _ => true
  | n + 1, .lst ds => ds.all (pl n)
  | n + 1, .tup ds => ds.all (pl n)
  | _, _ => false
theorem eqL_len : ∀ {xs ys : List D}, eqL xs ys = true → xs.length = ys.length
  | [], [], _ => rfl
  | [], _ :: _, h => by cases h
  | _ :: _, [], h => by cases h
  | x :: xs, y :: ys, h => by
    have h2 := (Bool.and_eq_true_iff.mp (show (eqD x y && eqL xs ys) = true from h)).2
    rw [List.length_cons, List.length_cons, eqL_len h2]
theorem eqL_ne {xs ys : List D} (h : xs.length ≠ ys.length) : eqL xs ys = false := by
  cases q : eqL xs ys with
  | false => rfl
  | true => exact absurd (eqL_len q) h
/-- equal item by item -/
theorem eqL_all : ∀ (xs ys : List D), xs.length = ys.length → eqL xs ys = (List.range xs.length).all fun j => eqD (xs.getD j .non) (ys.getD j .non)
  | [], [], _ => rfl
  | [], _ :: _, h => by cases h
  | _ :: _, [], h => by cases h
  | x :: xs, y :: ys, h => by
    have ih := eqL_all xs ys (by simpa using h)
    show (eqD x y && eqL xs ys) = _
    rw [ih, List.length_cons, List.range_succ_eq_map, List.all_cons, List.all_map]
    rfl
section
variable {X : Cx} {pins : List (Addr × Obj)} {sg : L2.St} {H G : Hp} {s : Shared}
/-- the same value, two readings: equal -/
theorem eqD_same (I : Inv X pins sg H s) (fz : Exz G H) (nz : Nz G) (n : Nat) : ∀ (d e : D) (v : V), pl n d = true → pl n e = true → Rp X.K G d v → Rp X.K G e v → eqD d e = true := by
  induction n with
  | zero =>
    intro d e v h1 h2 r1 r2
    cases d <;> first | (exact absurd h1 Bool.false_ne_true) | skip
    all_goals cases e <;> first | (exact absurd h2 Bool.false_ne_true) | skip
    all_goals (have q := Eq.trans (Eq.symm (show v = _ from r1)) (show v = _ from r2); first | rfl | (cases q <;> first | rfl | exact beq_self_eq_true _))
  | succ n ih =>
    have hl : ∀ (ds es : List D) (xs : List V), ds.all (pl n) = true → es.all (pl n) = true → RpL X.K G ds xs → RpL X.K G es xs → eqL ds es = true := by
      intro ds
      induction ds with
      | nil =>
        intro es xs _ _ r1 r2
        cases es with
        | nil => rfl
        | cons e es =>
          obtain ⟨x, ys, hx, _⟩ := r2
          rw [show xs = [] from r1] at hx
          cases hx
      | cons d ds ih2 =>
        intro es xs h1 h2 r1 r2
        obtain ⟨x, ys, rfl, a1, a2⟩ := r1
        cases es with
        | nil => cases (show x :: ys = [] from r2)
        | cons e es =>
          obtain ⟨x', ys', hx, b1, b2⟩ := r2
          cases hx
          rw [List.all_cons] at h1 h2
          obtain ⟨c1, c2⟩ := Bool.and_eq_true_iff.mp h1
          obtain ⟨e1, e2⟩ := Bool.and_eq_true_iff.mp h2
          show (eqD d e && eqL ds es) = true
          rw [ih d e x c1 e1 a1 b1, ih2 es ys c2 e2 a2 b2] <;> rfl
    intro d e v h1 h2 r1 r2
    cases d <;> first | (exact absurd h1 Bool.false_ne_true) | skip
    all_goals cases e <;> first | (exact absurd h2 Bool.false_ne_true) | skip
    case tup.tup ds es =>
      obtain ⟨a, xs, rfl, q1, q2⟩ := r1
      obtain ⟨a', ys, e', p1, p2⟩ := r2
      cases e'
      have hxy := I.tuple_inj (sqT_mono fz nz q1) (sqT_mono fz nz p1)
      subst hxy
      exact hl ds es xs h1 h2 q2 p2
    case lst.lst ds es =>
      obtain ⟨a, xs, rfl, q1, q2⟩ := r1
      obtain ⟨a', ys, e', p1, p2⟩ := r2
      cases e'
      have hxy := I.list_inj (.inl (fz.rd nz q1)) (.inl (fz.rd nz p1))
      subst hxy
      exact hl ds es xs h1 h2 q2 p2
    case tup.lst ds es =>
      obtain ⟨a, xs, rfl, q1, q2⟩ := r1
      obtain ⟨a', ys, e', p1, p2⟩ := r2
      cases e'
      obtain ⟨its, _, t1, _⟩ := I.tuple (sqT_mono fz nz q1)
      obtain ⟨its2, _, t2, _⟩ := I.list (.inl (fz.rd nz p1))
      exact absurd rfl (ne_of_list_tuple t2.isList t1)
    case lst.tup ds es =>
      obtain ⟨a, xs, rfl, q1, q2⟩ := r1
      obtain ⟨a', ys, e', p1, p2⟩ := r2
      cases e'
      obtain ⟨its, _, t1, _⟩ := I.tuple (sqT_mono fz nz p1)
      obtain ⟨its2, _, t2, _⟩ := I.list (.inl (fz.rd nz q1))
      exact absurd rfl (ne_of_list_tuple t2.isList t1)
    all_goals first
      | (obtain ⟨a, xs, rfl, _⟩ := r1; cases (show V.ref a = _ from r2))
      | (obtain ⟨a, xs, rfl, _⟩ := r2; cases (show V.ref a = _ from r1))
      | (have q := Eq.trans (Eq.symm (show v = _ from r1)) (show v = _ from r2); first | rfl | (cases q <;> first | rfl | exact beq_self_eq_true _))
/-- the items' equality, by place -/
theorem items_eq {n : Nat} {A : Around} (ih : ∀ (d e : D) (A : Around) (v w : V) (u u' : Value), pl n d = true → pl n e = true → Rp X.K G d v → Rp X.K G e w → RelV v u → RelV w u' → A.units + n < cLine → EqAt A s u u' (eqD d e))
    {ds es : List D} {xs ys : List V} {its its2 : List Value} (h1 : ds.all (pl n) = true) (h2 : es.all (pl n) = true) (r1 : RpL X.K G ds xs) (r2 : RpL X.K G es ys) (q1 : Vals xs its) (q2 : Vals ys its2) (hu : A.units + (n + 1) < cLine) :
    ∀ j (l1 : j < its.toArray.size) (l2 : j < its2.toArray.size), EqAt A.in1 s its.toArray[j] its2.toArray[j] (eqD (ds.getD j .non) (es.getD j .non)) := fun j l1 l2 => by
  have k1 : j < its.length := by simpa using l1
  have k2 : j < its2.length := by simpa using l2
  have m1 : j < ds.length := by rw [← rpl_len r1, q1.length]; exact k1
  have m2 : j < es.length := by rw [← rpl_len r2, q2.length]; exact k2
  obtain ⟨v, hv, rv⟩ := rpl_get r1 (List.getElem?_eq_getElem m1)
  obtain ⟨w, hw, rw2⟩ := rpl_get r2 (List.getElem?_eq_getElem m2)
  obtain ⟨u, hu1, ru⟩ := q1.get hv
  obtain ⟨u', hu2, ru'⟩ := q2.get hw
  have e1 : its.toArray[j] = u := by
    rw [List.getElem?_eq_getElem k1] at hu1
    simpa using hu1
  have e2 : its2.toArray[j] = u' := by
    rw [List.getElem?_eq_getElem k2] at hu2
    simpa using hu2
  have g1 : ds.getD j .non = ds[j] := by simp [List.getD, List.getElem?_eq_getElem m1]
  have g2 : es.getD j .non = es[j] := by simp [List.getD, List.getElem?_eq_getElem m2]
  rw [e1, e2, g1, g2]
  exact ih _ _ A.in1 v w u u' (List.all_eq_true.mp h1 _ (List.getElem_mem m1)) (List.all_eq_true.mp h2 _ (List.getElem_mem m2)) rv rw2 ru ru' (by show A.units + 1 + n < cLine; omega)
theorem list_flat {A : Around} {a : Addr} {its : Array Value} (h : s.heap.IsList a its) (hu : A.units < cLine) : ∀ {w : V} {u : Value}, RelV w u → flatV w = true → EqAt A s (.ref a) u false ∧ EqAt A s u (.ref a) false
  | .non, u, r, _ => by
    cases r
    exact ⟨EqAt.list_none h hu, EqAt.none_list h hu⟩
  | .bl b, u, r, _ => by
    cases r
    exact ⟨EqAt.list_bool b h hu, EqAt.bool_list b h hu⟩
  | .int i, u, r, _ => by
    obtain ⟨t, rfl⟩ := r
    exact ⟨EqAt.list_int i t h hu, EqAt.int_list i t h hu⟩
  | .str z, u, r, _ => by
    obtain ⟨t, rfl⟩ := r
    exact ⟨EqAt.list_str z t h hu, EqAt.str_list z t h hu⟩
  | .byt _, _, _, f => absurd f Bool.false_ne_true
  | .flt _, _, _, f => absurd f Bool.false_ne_true
  | .ref _, _, _, f => absurd f Bool.false_ne_true
  | .ty _, _, _, f => absurd f Bool.false_ne_true
theorem tup_flat {A : Around} {a : Addr} {its : Array Value} (h : s.heap.IsTuple a its) (hu : A.units < cLine) : ∀ {w : V} {u : Value}, RelV w u → flatV w = true → EqAt A s (.ref a) u false ∧ EqAt A s u (.ref a) false
  | .non, u, r, _ => by
    cases r
    exact ⟨EqAt.tuple_none h hu, EqAt.none_tuple h hu⟩
  | .bl b, u, r, _ => by
    cases r
    exact ⟨EqAt.tuple_bool b h hu, EqAt.bool_tuple b h hu⟩
  | .int i, u, r, _ => by
    obtain ⟨t, rfl⟩ := r
    exact ⟨EqAt.tuple_int i t h hu, EqAt.int_tuple i t h hu⟩
  | .str z, u, r, _ => by
    obtain ⟨t, rfl⟩ := r
    exact ⟨EqAt.tuple_str z t h hu, EqAt.str_tuple z t h hu⟩
  | .byt _, _, _, f => absurd f Bool.false_ne_true
  | .flt _, _, _, f => absurd f Bool.false_ne_true
  | .ref _, _, _, f => absurd f Bool.false_ne_true
  | .ty _, _, _, f => absurd f Bool.false_ne_true
/-- flat data -/
def fl : D → Bool
  | .non => true
  | .bl _ => true
  | .int _ => true
  | .str _ => true
  | _ => false
theorem fl_v : ∀ {d : D} {v : V}, fl d = true → Rp X.K G d v → flatV v = true
  | .non, v, _, h => by rw [show v = _ from h]; rfl
  | .bl _, v, _, h => by rw [show v = _ from h]; rfl
  | .int _, v, _, h => by rw [show v = _ from h]; rfl
  | .str _, v, _, h => by rw [show v = _ from h]; rfl
theorem fl_eq : ∀ {d e : D} {v w : V}, fl d = true → fl e = true → Rp X.K G d v → Rp X.K G e w → eqV v w = eqD d e := by
  intro d e v w h1 h2 r1 r2
  cases d <;> first | (exact absurd h1 Bool.false_ne_true) | skip
  all_goals cases e <;> first | (exact absurd h2 Bool.false_ne_true) | skip
  all_goals (have z1 := (show v = _ from r1); have z2 := (show w = _ from r2); subst z1 z2; rfl)
theorem eqAt_D (I : Inv X pins sg H s) (fz : Exz G H) (nz : Nz G) (n : Nat) : ∀ (d e : D) (A : Around) (v w : V) (u u' : Value), pl n d = true → pl n e = true → Rp X.K G d v → Rp X.K G e w → RelV v u → RelV w u' → A.units + n < cLine → EqAt A s u u' (eqD d e) := by
  have flat : ∀ (A : Around) (d e : D) (v w : V) (u u' : Value), RelV v u → RelV w u' → flatV v = true → flatV w = true → eqV v w = eqD d e → EqAt A s u u' (eqD d e) := fun A d e v w u u' r1 r2 f1 f2 q => q ▸ eqAt_V r1 r2 f1 f2
  induction n with
  | zero =>
    intro d e A v w u u' h1 h2 r1 r2 q1 q2 hu
    cases d <;> first | (exact absurd h1 Bool.false_ne_true) | skip
    all_goals cases e <;> first | (exact absurd h2 Bool.false_ne_true) | skip
    all_goals (have z1 := (show v = _ from r1); have z2 := (show w = _ from r2); subst z1 z2; exact flat A _ _ _ _ _ _ q1 q2 rfl rfl rfl)
  | succ n ih =>
    intro d e A v w u u' h1 h2 r1 r2 q1 q2 hu
    have hu0 : A.units < cLine := by omega
    have lstf : ∀ {ds : List D} {e : D}, Rp X.K G (.lst ds) v → fl e = true → Rp X.K G e w → RelV v u → RelV w u' → EqAt A s u u' false := fun {ds e} r1 f r2 q1 q2 => by
      obtain ⟨a, xs, rfl, a1, a2⟩ := r1
      cases q1
      obtain ⟨its, t1, t2, _⟩ := I.list (.inl (fz.rd nz a1))
      exact (list_flat t2.isList hu0 q2 (fl_v f r2)).1
    have tupf : ∀ {ds : List D} {e : D}, Rp X.K G (.tup ds) v → fl e = true → Rp X.K G e w → RelV v u → RelV w u' → EqAt A s u u' false := fun {ds e} r1 f r2 q1 q2 => by
      obtain ⟨a, xs, rfl, a1, a2⟩ := r1
      cases q1
      obtain ⟨its, t1, t2, _⟩ := I.tuple (sqT_mono fz nz a1)
      exact (tup_flat t2 hu0 q2 (fl_v f r2)).1
    have flst : ∀ {ds : List D} {e : D}, Rp X.K G e v → fl e = true → Rp X.K G (.lst ds) w → RelV v u → RelV w u' → EqAt A s u u' false := fun {ds e} r1 f r2 q1 q2 => by
      obtain ⟨a, xs, rfl, a1, a2⟩ := r2
      cases q2
      obtain ⟨its, t1, t2, _⟩ := I.list (.inl (fz.rd nz a1))
      exact (list_flat t2.isList hu0 q1 (fl_v f r1)).2
    have ftup : ∀ {ds : List D} {e : D}, Rp X.K G e v → fl e = true → Rp X.K G (.tup ds) w → RelV v u → RelV w u' → EqAt A s u u' false := fun {ds e} r1 f r2 q1 q2 => by
      obtain ⟨a, xs, rfl, a1, a2⟩ := r2
      cases q2
      obtain ⟨its, t1, t2, _⟩ := I.tuple (sqT_mono fz nz a1)
      exact (tup_flat t2 hu0 q1 (fl_v f r1)).2
    cases d <;> first | (exact absurd h1 Bool.false_ne_true) | skip
    all_goals cases e <;> first | (exact absurd h2 Bool.false_ne_true) | skip
    case lst.lst ds es =>
      by_cases hab : v = w
      · subst hab
        have hue : u = u' := by
          obtain ⟨a, xs, rfl, _⟩ := r1
          rw [show u = Value.ref a from q1, show u' = Value.ref a from q2]
        subst hue
        rw [eqD_same I fz nz (n + 1) _ _ v h1 h2 r1 r2]
        exact EqAt.same _
      · obtain ⟨a, xs, rfl, a1, a2⟩ := r1
        obtain ⟨b, ys, rfl, b1, b2⟩ := r2
        cases q1
        cases q2
        obtain ⟨its, t1, t2, _⟩ := I.list (.inl (fz.rd nz a1))
        obtain ⟨its2, t3, t4, _⟩ := I.list (.inl (fz.rd nz b1))
        have l1 : its.toArray.size = ds.length := by rw [List.size_toArray, ← t1.length, rpl_len a2]
        have l2 : its2.toArray.size = es.length := by rw [List.size_toArray, ← t3.length, rpl_len b2]
        show EqAt A s _ _ (eqL ds es)
        by_cases hl : ds.length = es.length
        · rw [eqL_all ds es hl, ← l1]
          exact EqAt.of_refs (fun z => hab (by rw [z])) (RcAt.lists t2.isList t4.isList (by omega) hu0 (items_eq ih h1 h2 a2 b2 t1 t3 hu))
        · rw [eqL_ne hl]
          exact EqAt.of_refs (fun z => hab (by rw [z])) (RcAt.lists_lengths t2.isList t4.isList (by simp only [bne_iff_ne]; omega) hu0)
    case tup.tup ds es =>
      by_cases hab : v = w
      · subst hab
        have hue : u = u' := by
          obtain ⟨a, xs, rfl, _⟩ := r1
          rw [show u = Value.ref a from q1, show u' = Value.ref a from q2]
        subst hue
        rw [eqD_same I fz nz (n + 1) _ _ v h1 h2 r1 r2]
        exact EqAt.same _
      · obtain ⟨a, xs, rfl, a1, a2⟩ := r1
        obtain ⟨b, ys, rfl, b1, b2⟩ := r2
        cases q1
        cases q2
        obtain ⟨its, t1, t2, _⟩ := I.tuple (sqT_mono fz nz a1)
        obtain ⟨its2, t3, t4, _⟩ := I.tuple (sqT_mono fz nz b1)
        have l1 : its.toArray.size = ds.length := by rw [List.size_toArray, ← t1.length, rpl_len a2]
        have l2 : its2.toArray.size = es.length := by rw [List.size_toArray, ← t3.length, rpl_len b2]
        have main := RcAt.tuples t2 t4 hu0 (items_eq ih h1 h2 a2 b2 t1 t3 hu)
        have key : ((List.range (min its.toArray.size its2.toArray.size)).all (fun j => eqD (ds.getD j .non) (es.getD j .non)) && its.toArray.size == its2.toArray.size) = eqL ds es := by
          by_cases hl : ds.length = es.length
          · rw [eqL_all ds es hl, l1, l2, hl]
            simp
          · rw [eqL_ne hl, l1, l2]
            simp [hl]
        rw [key] at main
        exact EqAt.of_refs (fun z => hab (by rw [z])) main
    case lst.tup ds es =>
      obtain ⟨a, xs, rfl, a1, a2⟩ := r1
      obtain ⟨b, ys, rfl, b1, b2⟩ := r2
      cases q1
      cases q2
      obtain ⟨its, t1, t2, _⟩ := I.list (.inl (fz.rd nz a1))
      obtain ⟨its2, t3, t4, _⟩ := I.tuple (sqT_mono fz nz b1)
      exact EqAt.list_tuple t2.isList t4 hu0
    case tup.lst ds es =>
      obtain ⟨a, xs, rfl, a1, a2⟩ := r1
      obtain ⟨b, ys, rfl, b1, b2⟩ := r2
      cases q1
      cases q2
      obtain ⟨its, t1, t2, _⟩ := I.tuple (sqT_mono fz nz a1)
      obtain ⟨its2, t3, t4, _⟩ := I.list (.inl (fz.rd nz b1))
      exact EqAt.tuple_list t2 t4.isList hu0
    case lst.non => exact lstf r1 rfl r2 q1 q2
    case lst.bl => exact lstf r1 rfl r2 q1 q2
    case lst.int => exact lstf r1 rfl r2 q1 q2
    case lst.str => exact lstf r1 rfl r2 q1 q2
    case tup.non => exact tupf r1 rfl r2 q1 q2
    case tup.bl => exact tupf r1 rfl r2 q1 q2
    case tup.int => exact tupf r1 rfl r2 q1 q2
    case tup.str => exact tupf r1 rfl r2 q1 q2
    case non.lst => exact flst r1 rfl r2 q1 q2
    case bl.lst => exact flst r1 rfl r2 q1 q2
    case int.lst => exact flst r1 rfl r2 q1 q2
    case str.lst => exact flst r1 rfl r2 q1 q2
    case non.tup => exact ftup r1 rfl r2 q1 q2
    case bl.tup => exact ftup r1 rfl r2 q1 q2
    case int.tup => exact ftup r1 rfl r2 q1 q2
    case str.tup => exact ftup r1 rfl r2 q1 q2
    all_goals (have z1 := (show v = _ from r1); have z2 := (show w = _ from r2); subst z1 z2; exact flat A _ _ _ _ _ _ q1 q2 rfl rfl rfl)
end
end DL

/-! DQ: == and != of data, at the top (printed by gen_eq.py, own work). -/
namespace DL
open PySem L2 PySem.SeqAt
section
variable {X : Cx} {pins : List (Addr × Obj)} {sg : L2.St} {H G : Hp} {s : Shared}

theorem rc_flat {A : Around} : ∀ {v w : V} {u u' : Value}, RelV v u → RelV w u' → flatV v = true → flatV w = true → RcAt A s u u' (eqV v w)
  | .non, .non, u, u', r1, r2, _, _ => by
    cases r1
    cases r2
    exact RcAt.none_none
  | .non, .bl b2, u, u', r1, r2, _, _ => by
    cases r1
    cases r2
    exact RcAt.none_bool b2
  | .non, .int i2, u, u', r1, r2, _, _ => by
    cases r1
    obtain ⟨t2, rfl⟩ := r2
    exact RcAt.none_int i2 t2
  | .non, .str z2, u, u', r1, r2, _, _ => by
    cases r1
    obtain ⟨t2, rfl⟩ := r2
    exact RcAt.none_str z2 t2
  | .bl b1, .non, u, u', r1, r2, _, _ => by
    cases r1
    cases r2
    exact RcAt.bool_none b1
  | .bl b1, .bl b2, u, u', r1, r2, _, _ => by
    cases r1
    cases r2
    exact RcAt.bool_bool b1 b2
  | .bl b1, .int i2, u, u', r1, r2, _, _ => by
    cases r1
    obtain ⟨t2, rfl⟩ := r2
    exact RcAt.bool_int b1 i2 t2
  | .bl b1, .str z2, u, u', r1, r2, _, _ => by
    cases r1
    obtain ⟨t2, rfl⟩ := r2
    exact RcAt.bool_str b1 z2 t2
  | .int i1, .non, u, u', r1, r2, _, _ => by
    obtain ⟨t1, rfl⟩ := r1
    cases r2
    exact RcAt.int_none i1 t1
  | .int i1, .bl b2, u, u', r1, r2, _, _ => by
    obtain ⟨t1, rfl⟩ := r1
    cases r2
    exact RcAt.int_bool i1 t1 b2
  | .int i1, .int i2, u, u', r1, r2, _, _ => by
    obtain ⟨t1, rfl⟩ := r1
    obtain ⟨t2, rfl⟩ := r2
    exact RcAt.int_int i1 t1 i2 t2
  | .int i1, .str z2, u, u', r1, r2, _, _ => by
    obtain ⟨t1, rfl⟩ := r1
    obtain ⟨t2, rfl⟩ := r2
    exact RcAt.int_str i1 t1 z2 t2
  | .str z1, .non, u, u', r1, r2, _, _ => by
    obtain ⟨t1, rfl⟩ := r1
    cases r2
    exact RcAt.str_none z1 t1
  | .str z1, .bl b2, u, u', r1, r2, _, _ => by
    obtain ⟨t1, rfl⟩ := r1
    cases r2
    exact RcAt.str_bool z1 t1 b2
  | .str z1, .int i2, u, u', r1, r2, _, _ => by
    obtain ⟨t1, rfl⟩ := r1
    obtain ⟨t2, rfl⟩ := r2
    exact RcAt.str_int z1 t1 i2 t2
  | .str z1, .str z2, u, u', r1, r2, _, _ => by
    obtain ⟨t1, rfl⟩ := r1
    obtain ⟨t2, rfl⟩ := r2
    exact RcAt.str_str z1 t1 z2 t2
  | .byt _, _, _, _, _, _, f, _ => absurd f Bool.false_ne_true
  | .flt _, _, _, _, _, _, f, _ => absurd f Bool.false_ne_true
  | .ref _, _, _, _, _, _, f, _ => absurd f Bool.false_ne_true
  | .ty _, _, _, _, _, _, f, _ => absurd f Bool.false_ne_true
  | .non, .byt _, _, _, _, _, _, f => absurd f Bool.false_ne_true
  | .bl _, .byt _, _, _, _, _, _, f => absurd f Bool.false_ne_true
  | .int _, .byt _, _, _, _, _, _, f => absurd f Bool.false_ne_true
  | .str _, .byt _, _, _, _, _, _, f => absurd f Bool.false_ne_true
  | .non, .flt _, _, _, _, _, _, f => absurd f Bool.false_ne_true
  | .bl _, .flt _, _, _, _, _, _, f => absurd f Bool.false_ne_true
  | .int _, .flt _, _, _, _, _, _, f => absurd f Bool.false_ne_true
  | .str _, .flt _, _, _, _, _, _, f => absurd f Bool.false_ne_true
  | .non, .ref _, _, _, _, _, _, f => absurd f Bool.false_ne_true
  | .bl _, .ref _, _, _, _, _, _, f => absurd f Bool.false_ne_true
  | .int _, .ref _, _, _, _, _, _, f => absurd f Bool.false_ne_true
  | .str _, .ref _, _, _, _, _, _, f => absurd f Bool.false_ne_true
  | .non, .ty _, _, _, _, _, _, f => absurd f Bool.false_ne_true
  | .bl _, .ty _, _, _, _, _, _, f => absurd f Bool.false_ne_true
  | .int _, .ty _, _, _, _, _, _, f => absurd f Bool.false_ne_true
  | .str _, .ty _, _, _, _, _, _, f => absurd f Bool.false_ne_true
theorem rc_list {A : Around} {a : Addr} {its : Array Value} (h : s.heap.IsList a its) (hu : A.units < cLine) : ∀ {w : V} {u : Value}, RelV w u → flatV w = true → RcAt A s (.ref a) u false ∧ RcAt A s u (.ref a) false
  | .non, u, r, _ => by
    cases r
    exact ⟨RcAt.list_none h hu, RcAt.none_list h hu⟩
  | .bl b2, u, r, _ => by
    cases r
    exact ⟨RcAt.list_bool b2 h hu, RcAt.bool_list b2 h hu⟩
  | .int i2, u, r, _ => by
    obtain ⟨t2, rfl⟩ := r
    exact ⟨RcAt.list_int i2 t2 h hu, RcAt.int_list i2 t2 h hu⟩
  | .str z2, u, r, _ => by
    obtain ⟨t2, rfl⟩ := r
    exact ⟨RcAt.list_str z2 t2 h hu, RcAt.str_list z2 t2 h hu⟩
  | .byt _, _, _, f => absurd f Bool.false_ne_true
  | .flt _, _, _, f => absurd f Bool.false_ne_true
  | .ref _, _, _, f => absurd f Bool.false_ne_true
  | .ty _, _, _, f => absurd f Bool.false_ne_true
theorem rc_tuple {A : Around} {a : Addr} {its : Array Value} (h : s.heap.IsTuple a its) (hu : A.units < cLine) : ∀ {w : V} {u : Value}, RelV w u → flatV w = true → RcAt A s (.ref a) u false ∧ RcAt A s u (.ref a) false
  | .non, u, r, _ => by
    cases r
    exact ⟨RcAt.tuple_none h hu, RcAt.none_tuple h hu⟩
  | .bl b2, u, r, _ => by
    cases r
    exact ⟨RcAt.tuple_bool b2 h hu, RcAt.bool_tuple b2 h hu⟩
  | .int i2, u, r, _ => by
    obtain ⟨t2, rfl⟩ := r
    exact ⟨RcAt.tuple_int i2 t2 h hu, RcAt.int_tuple i2 t2 h hu⟩
  | .str z2, u, r, _ => by
    obtain ⟨t2, rfl⟩ := r
    exact ⟨RcAt.tuple_str z2 t2 h hu, RcAt.str_tuple z2 t2 h hu⟩
  | .byt _, _, _, f => absurd f Bool.false_ne_true
  | .flt _, _, _, f => absurd f Bool.false_ne_true
  | .ref _, _, _, f => absurd f Bool.false_ne_true
  | .ty _, _, _, f => absurd f Bool.false_ne_true
theorem rc_D (I : Inv X pins sg H s) (fz : Exz G H) (nz : Nz G) (n : Nat) (d e : D) (A : Around) (v w : V) (u u' : Value) (h1 : pl (n + 1) d = true) (h2 : pl (n + 1) e = true) (r1 : Rp X.K G d v) (r2 : Rp X.K G e w) (q1 : RelV v u) (q2 : RelV w u') (hu : A.units + (n + 1) < cLine) : RcAt A s u u' (eqD d e) := by
  have hu0 : A.units < cLine := by omega
  have ih := eqAt_D (X := X) I fz nz n
  have lstf : ∀ {ds : List D} {e : D}, Rp X.K G (.lst ds) v → fl e = true → Rp X.K G e w → RcAt A s u u' false := fun {ds e} r1 f r2 => by
    obtain ⟨a, xs, rfl, a1, a2⟩ := r1
    cases q1
    obtain ⟨its, t1, t2, _⟩ := I.list (.inl (fz.rd nz a1))
    exact (rc_list t2.isList hu0 q2 (fl_v f r2)).1
  have tupf : ∀ {ds : List D} {e : D}, Rp X.K G (.tup ds) v → fl e = true → Rp X.K G e w → RcAt A s u u' false := fun {ds e} r1 f r2 => by
    obtain ⟨a, xs, rfl, a1, a2⟩ := r1
    cases q1
    obtain ⟨its, t1, t2, _⟩ := I.tuple (sqT_mono fz nz a1)
    exact (rc_tuple t2 hu0 q2 (fl_v f r2)).1
  have flst : ∀ {ds : List D} {e : D}, Rp X.K G e v → fl e = true → Rp X.K G (.lst ds) w → RcAt A s u u' false := fun {ds e} r1 f r2 => by
    obtain ⟨a, xs, rfl, a1, a2⟩ := r2
    cases q2
    obtain ⟨its, t1, t2, _⟩ := I.list (.inl (fz.rd nz a1))
    exact (rc_list t2.isList hu0 q1 (fl_v f r1)).2
  have ftup : ∀ {ds : List D} {e : D}, Rp X.K G e v → fl e = true → Rp X.K G (.tup ds) w → RcAt A s u u' false := fun {ds e} r1 f r2 => by
    obtain ⟨a, xs, rfl, a1, a2⟩ := r2
    cases q2
    obtain ⟨its, t1, t2, _⟩ := I.tuple (sqT_mono fz nz a1)
    exact (rc_tuple t2 hu0 q1 (fl_v f r1)).2
  have flat : ∀ {d e : D}, fl d = true → fl e = true → Rp X.K G d v → Rp X.K G e w → RcAt A s u u' (eqD d e) := fun {d e} f1 f2 r1 r2 => by
    have z := rc_flat (A := A) (s := s) q1 q2 (fl_v f1 r1) (fl_v f2 r2)
    rw [fl_eq f1 f2 r1 r2] at z
    exact z
  cases d <;> first | (exact absurd h1 Bool.false_ne_true) | skip
  all_goals cases e <;> first | (exact absurd h2 Bool.false_ne_true) | skip
  case lst.lst ds es =>
    obtain ⟨a, xs, rfl, a1, a2⟩ := r1
    obtain ⟨b, ys, rfl, b1, b2⟩ := r2
    cases q1
    cases q2
    obtain ⟨its, t1, t2, _⟩ := I.list (.inl (fz.rd nz a1))
    obtain ⟨its2, t3, t4, _⟩ := I.list (.inl (fz.rd nz b1))
    have l1 : its.toArray.size = ds.length := by rw [List.size_toArray, ← t1.length, rpl_len a2]
    have l2 : its2.toArray.size = es.length := by rw [List.size_toArray, ← t3.length, rpl_len b2]
    show RcAt A s _ _ (eqL ds es)
    by_cases hl : ds.length = es.length
    · rw [eqL_all ds es hl, ← l1]
      exact RcAt.lists t2.isList t4.isList (by omega) hu0 (items_eq ih h1 h2 a2 b2 t1 t3 hu)
    · rw [eqL_ne hl]
      exact RcAt.lists_lengths t2.isList t4.isList (by simp only [bne_iff_ne]; omega) hu0
  case tup.tup ds es =>
    obtain ⟨a, xs, rfl, a1, a2⟩ := r1
    obtain ⟨b, ys, rfl, b1, b2⟩ := r2
    cases q1
    cases q2
    obtain ⟨its, t1, t2, _⟩ := I.tuple (sqT_mono fz nz a1)
    obtain ⟨its2, t3, t4, _⟩ := I.tuple (sqT_mono fz nz b1)
    have l1 : its.toArray.size = ds.length := by rw [List.size_toArray, ← t1.length, rpl_len a2]
    have l2 : its2.toArray.size = es.length := by rw [List.size_toArray, ← t3.length, rpl_len b2]
    have main := RcAt.tuples t2 t4 hu0 (items_eq ih h1 h2 a2 b2 t1 t3 hu)
    have key : ((List.range (min its.toArray.size its2.toArray.size)).all (fun j => eqD (ds.getD j .non) (es.getD j .non)) && its.toArray.size == its2.toArray.size) = eqL ds es := by
      by_cases hl : ds.length = es.length
      · rw [eqL_all ds es hl, l1, l2, hl]
        simp
      · rw [eqL_ne hl, l1, l2]
        simp [hl]
    rw [key] at main
    exact main
  case lst.tup ds es =>
    obtain ⟨a, xs, rfl, a1, a2⟩ := r1
    obtain ⟨b, ys, rfl, b1, b2⟩ := r2
    cases q1
    cases q2
    obtain ⟨its, t1, t2, _⟩ := I.list (.inl (fz.rd nz a1))
    obtain ⟨its2, t3, t4, _⟩ := I.tuple (sqT_mono fz nz b1)
    exact RcAt.list_tuple t2.isList t4 hu0
  case tup.lst ds es =>
    obtain ⟨a, xs, rfl, a1, a2⟩ := r1
    obtain ⟨b, ys, rfl, b1, b2⟩ := r2
    cases q1
    cases q2
    obtain ⟨its, t1, t2, _⟩ := I.tuple (sqT_mono fz nz a1)
    obtain ⟨its2, t3, t4, _⟩ := I.list (.inl (fz.rd nz b1))
    exact RcAt.tuple_list t2 t4.isList hu0
  case lst.non => exact lstf r1 rfl r2
  case tup.non => exact tupf r1 rfl r2
  case non.lst => exact flst r1 rfl r2
  case non.tup => exact ftup r1 rfl r2
  case lst.bl => exact lstf r1 rfl r2
  case tup.bl => exact tupf r1 rfl r2
  case bl.lst => exact flst r1 rfl r2
  case bl.tup => exact ftup r1 rfl r2
  case lst.int => exact lstf r1 rfl r2
  case tup.int => exact tupf r1 rfl r2
  case int.lst => exact flst r1 rfl r2
  case int.tup => exact ftup r1 rfl r2
  case lst.str => exact lstf r1 rfl r2
  case tup.str => exact tupf r1 rfl r2
  case str.lst => exact flst r1 rfl r2
  case str.tup => exact ftup r1 rfl r2
  all_goals exact flat rfl rfl r1 r2
theorem rn_flat {A : Around} : ∀ {v w : V} {u u' : Value}, RelV v u → RelV w u' → flatV v = true → flatV w = true → RcNeAt A s u u' (!eqV v w)
  | .non, .non, u, u', r1, r2, _, _ => by
    cases r1
    cases r2
    exact RcNeAt.none_none
  | .non, .bl b2, u, u', r1, r2, _, _ => by
    cases r1
    cases r2
    exact RcNeAt.none_bool b2
  | .non, .int i2, u, u', r1, r2, _, _ => by
    cases r1
    obtain ⟨t2, rfl⟩ := r2
    exact RcNeAt.none_int i2 t2
  | .non, .str z2, u, u', r1, r2, _, _ => by
    cases r1
    obtain ⟨t2, rfl⟩ := r2
    exact RcNeAt.none_str z2 t2
  | .bl b1, .non, u, u', r1, r2, _, _ => by
    cases r1
    cases r2
    exact RcNeAt.bool_none b1
  | .bl b1, .bl b2, u, u', r1, r2, _, _ => by
    cases r1
    cases r2
    exact RcNeAt.bool_bool b1 b2
  | .bl b1, .int i2, u, u', r1, r2, _, _ => by
    cases r1
    obtain ⟨t2, rfl⟩ := r2
    exact RcNeAt.bool_int b1 i2 t2
  | .bl b1, .str z2, u, u', r1, r2, _, _ => by
    cases r1
    obtain ⟨t2, rfl⟩ := r2
    exact RcNeAt.bool_str b1 z2 t2
  | .int i1, .non, u, u', r1, r2, _, _ => by
    obtain ⟨t1, rfl⟩ := r1
    cases r2
    exact RcNeAt.int_none i1 t1
  | .int i1, .bl b2, u, u', r1, r2, _, _ => by
    obtain ⟨t1, rfl⟩ := r1
    cases r2
    exact RcNeAt.int_bool i1 t1 b2
  | .int i1, .int i2, u, u', r1, r2, _, _ => by
    obtain ⟨t1, rfl⟩ := r1
    obtain ⟨t2, rfl⟩ := r2
    exact RcNeAt.int_int i1 t1 i2 t2
  | .int i1, .str z2, u, u', r1, r2, _, _ => by
    obtain ⟨t1, rfl⟩ := r1
    obtain ⟨t2, rfl⟩ := r2
    exact RcNeAt.int_str i1 t1 z2 t2
  | .str z1, .non, u, u', r1, r2, _, _ => by
    obtain ⟨t1, rfl⟩ := r1
    cases r2
    exact RcNeAt.str_none z1 t1
  | .str z1, .bl b2, u, u', r1, r2, _, _ => by
    obtain ⟨t1, rfl⟩ := r1
    cases r2
    exact RcNeAt.str_bool z1 t1 b2
  | .str z1, .int i2, u, u', r1, r2, _, _ => by
    obtain ⟨t1, rfl⟩ := r1
    obtain ⟨t2, rfl⟩ := r2
    exact RcNeAt.str_int z1 t1 i2 t2
  | .str z1, .str z2, u, u', r1, r2, _, _ => by
    obtain ⟨t1, rfl⟩ := r1
    obtain ⟨t2, rfl⟩ := r2
    exact RcNeAt.str_str z1 t1 z2 t2
  | .byt _, _, _, _, _, _, f, _ => absurd f Bool.false_ne_true
  | .flt _, _, _, _, _, _, f, _ => absurd f Bool.false_ne_true
  | .ref _, _, _, _, _, _, f, _ => absurd f Bool.false_ne_true
  | .ty _, _, _, _, _, _, f, _ => absurd f Bool.false_ne_true
  | .non, .byt _, _, _, _, _, _, f => absurd f Bool.false_ne_true
  | .bl _, .byt _, _, _, _, _, _, f => absurd f Bool.false_ne_true
  | .int _, .byt _, _, _, _, _, _, f => absurd f Bool.false_ne_true
  | .str _, .byt _, _, _, _, _, _, f => absurd f Bool.false_ne_true
  | .non, .flt _, _, _, _, _, _, f => absurd f Bool.false_ne_true
  | .bl _, .flt _, _, _, _, _, _, f => absurd f Bool.false_ne_true
  | .int _, .flt _, _, _, _, _, _, f => absurd f Bool.false_ne_true
  | .str _, .flt _, _, _, _, _, _, f => absurd f Bool.false_ne_true
  | .non, .ref _, _, _, _, _, _, f => absurd f Bool.false_ne_true
  | .bl _, .ref _, _, _, _, _, _, f => absurd f Bool.false_ne_true
  | .int _, .ref _, _, _, _, _, _, f => absurd f Bool.false_ne_true
  | .str _, .ref _, _, _, _, _, _, f => absurd f Bool.false_ne_true
  | .non, .ty _, _, _, _, _, _, f => absurd f Bool.false_ne_true
  | .bl _, .ty _, _, _, _, _, _, f => absurd f Bool.false_ne_true
  | .int _, .ty _, _, _, _, _, _, f => absurd f Bool.false_ne_true
  | .str _, .ty _, _, _, _, _, _, f => absurd f Bool.false_ne_true
theorem rn_list {A : Around} {a : Addr} {its : Array Value} (h : s.heap.IsList a its) (hu : A.units < cLine) : ∀ {w : V} {u : Value}, RelV w u → flatV w = true → RcNeAt A s (.ref a) u true ∧ RcNeAt A s u (.ref a) true
  | .non, u, r, _ => by
    cases r
    exact ⟨RcNeAt.list_none h hu, RcNeAt.none_list h hu⟩
  | .bl b2, u, r, _ => by
    cases r
    exact ⟨RcNeAt.list_bool b2 h hu, RcNeAt.bool_list b2 h hu⟩
  | .int i2, u, r, _ => by
    obtain ⟨t2, rfl⟩ := r
    exact ⟨RcNeAt.list_int i2 t2 h hu, RcNeAt.int_list i2 t2 h hu⟩
  | .str z2, u, r, _ => by
    obtain ⟨t2, rfl⟩ := r
    exact ⟨RcNeAt.list_str z2 t2 h hu, RcNeAt.str_list z2 t2 h hu⟩
  | .byt _, _, _, f => absurd f Bool.false_ne_true
  | .flt _, _, _, f => absurd f Bool.false_ne_true
  | .ref _, _, _, f => absurd f Bool.false_ne_true
  | .ty _, _, _, f => absurd f Bool.false_ne_true
theorem rn_tuple {A : Around} {a : Addr} {its : Array Value} (h : s.heap.IsTuple a its) (hu : A.units < cLine) : ∀ {w : V} {u : Value}, RelV w u → flatV w = true → RcNeAt A s (.ref a) u true ∧ RcNeAt A s u (.ref a) true
  | .non, u, r, _ => by
    cases r
    exact ⟨RcNeAt.tuple_none h hu, RcNeAt.none_tuple h hu⟩
  | .bl b2, u, r, _ => by
    cases r
    exact ⟨RcNeAt.tuple_bool b2 h hu, RcNeAt.bool_tuple b2 h hu⟩
  | .int i2, u, r, _ => by
    obtain ⟨t2, rfl⟩ := r
    exact ⟨RcNeAt.tuple_int i2 t2 h hu, RcNeAt.int_tuple i2 t2 h hu⟩
  | .str z2, u, r, _ => by
    obtain ⟨t2, rfl⟩ := r
    exact ⟨RcNeAt.tuple_str z2 t2 h hu, RcNeAt.str_tuple z2 t2 h hu⟩
  | .byt _, _, _, f => absurd f Bool.false_ne_true
  | .flt _, _, _, f => absurd f Bool.false_ne_true
  | .ref _, _, _, f => absurd f Bool.false_ne_true
  | .ty _, _, _, f => absurd f Bool.false_ne_true
theorem rn_D (I : Inv X pins sg H s) (fz : Exz G H) (nz : Nz G) (n : Nat) (d e : D) (A : Around) (v w : V) (u u' : Value) (h1 : pl (n + 1) d = true) (h2 : pl (n + 1) e = true) (r1 : Rp X.K G d v) (r2 : Rp X.K G e w) (q1 : RelV v u) (q2 : RelV w u') (hu : A.units + (n + 1) < cLine) : RcNeAt A s u u' (!eqD d e) := by
  have hu0 : A.units < cLine := by omega
  have ih := eqAt_D (X := X) I fz nz n
  have lstf : ∀ {ds : List D} {e : D}, Rp X.K G (.lst ds) v → fl e = true → Rp X.K G e w → RcNeAt A s u u' true := fun {ds e} r1 f r2 => by
    obtain ⟨a, xs, rfl, a1, a2⟩ := r1
    cases q1
    obtain ⟨its, t1, t2, _⟩ := I.list (.inl (fz.rd nz a1))
    exact (rn_list t2.isList hu0 q2 (fl_v f r2)).1
  have tupf : ∀ {ds : List D} {e : D}, Rp X.K G (.tup ds) v → fl e = true → Rp X.K G e w → RcNeAt A s u u' true := fun {ds e} r1 f r2 => by
    obtain ⟨a, xs, rfl, a1, a2⟩ := r1
    cases q1
    obtain ⟨its, t1, t2, _⟩ := I.tuple (sqT_mono fz nz a1)
    exact (rn_tuple t2 hu0 q2 (fl_v f r2)).1
  have flst : ∀ {ds : List D} {e : D}, Rp X.K G e v → fl e = true → Rp X.K G (.lst ds) w → RcNeAt A s u u' true := fun {ds e} r1 f r2 => by
    obtain ⟨a, xs, rfl, a1, a2⟩ := r2
    cases q2
    obtain ⟨its, t1, t2, _⟩ := I.list (.inl (fz.rd nz a1))
    exact (rn_list t2.isList hu0 q1 (fl_v f r1)).2
  have ftup : ∀ {ds : List D} {e : D}, Rp X.K G e v → fl e = true → Rp X.K G (.tup ds) w → RcNeAt A s u u' true := fun {ds e} r1 f r2 => by
    obtain ⟨a, xs, rfl, a1, a2⟩ := r2
    cases q2
    obtain ⟨its, t1, t2, _⟩ := I.tuple (sqT_mono fz nz a1)
    exact (rn_tuple t2 hu0 q1 (fl_v f r1)).2
  have flat : ∀ {d e : D}, fl d = true → fl e = true → Rp X.K G d v → Rp X.K G e w → RcNeAt A s u u' (!eqD d e) := fun {d e} f1 f2 r1 r2 => by
    have z := rn_flat (A := A) (s := s) q1 q2 (fl_v f1 r1) (fl_v f2 r2)
    rw [fl_eq f1 f2 r1 r2] at z
    exact z
  cases d <;> first | (exact absurd h1 Bool.false_ne_true) | skip
  all_goals cases e <;> first | (exact absurd h2 Bool.false_ne_true) | skip
  case lst.lst ds es =>
    obtain ⟨a, xs, rfl, a1, a2⟩ := r1
    obtain ⟨b, ys, rfl, b1, b2⟩ := r2
    cases q1
    cases q2
    obtain ⟨its, t1, t2, _⟩ := I.list (.inl (fz.rd nz a1))
    obtain ⟨its2, t3, t4, _⟩ := I.list (.inl (fz.rd nz b1))
    have l1 : its.toArray.size = ds.length := by rw [List.size_toArray, ← t1.length, rpl_len a2]
    have l2 : its2.toArray.size = es.length := by rw [List.size_toArray, ← t3.length, rpl_len b2]
    show RcNeAt A s _ _ (!eqL ds es)
    by_cases hl : ds.length = es.length
    · rw [eqL_all ds es hl, ← l1]
      exact RcNeAt.lists t2.isList t4.isList (by omega) hu0 (items_eq ih h1 h2 a2 b2 t1 t3 hu)
    · rw [eqL_ne hl]
      exact RcNeAt.lists_lengths t2.isList t4.isList (by simp only [bne_iff_ne]; omega) hu0
  case tup.tup ds es =>
    obtain ⟨a, xs, rfl, a1, a2⟩ := r1
    obtain ⟨b, ys, rfl, b1, b2⟩ := r2
    cases q1
    cases q2
    obtain ⟨its, t1, t2, _⟩ := I.tuple (sqT_mono fz nz a1)
    obtain ⟨its2, t3, t4, _⟩ := I.tuple (sqT_mono fz nz b1)
    have l1 : its.toArray.size = ds.length := by rw [List.size_toArray, ← t1.length, rpl_len a2]
    have l2 : its2.toArray.size = es.length := by rw [List.size_toArray, ← t3.length, rpl_len b2]
    have main := RcNeAt.tuples t2 t4 hu0 (items_eq ih h1 h2 a2 b2 t1 t3 hu)
    have key : ((List.range (min its.toArray.size its2.toArray.size)).all (fun j => eqD (ds.getD j .non) (es.getD j .non)) && its.toArray.size == its2.toArray.size) = eqL ds es := by
      by_cases hl : ds.length = es.length
      · rw [eqL_all ds es hl, l1, l2, hl]
        simp
      · rw [eqL_ne hl, l1, l2]
        simp [hl]
    rw [key] at main
    exact main
  case lst.tup ds es =>
    obtain ⟨a, xs, rfl, a1, a2⟩ := r1
    obtain ⟨b, ys, rfl, b1, b2⟩ := r2
    cases q1
    cases q2
    obtain ⟨its, t1, t2, _⟩ := I.list (.inl (fz.rd nz a1))
    obtain ⟨its2, t3, t4, _⟩ := I.tuple (sqT_mono fz nz b1)
    exact RcNeAt.list_tuple t2.isList t4 hu0
  case tup.lst ds es =>
    obtain ⟨a, xs, rfl, a1, a2⟩ := r1
    obtain ⟨b, ys, rfl, b1, b2⟩ := r2
    cases q1
    cases q2
    obtain ⟨its, t1, t2, _⟩ := I.tuple (sqT_mono fz nz a1)
    obtain ⟨its2, t3, t4, _⟩ := I.list (.inl (fz.rd nz b1))
    exact RcNeAt.tuple_list t2 t4.isList hu0
  case lst.non => exact lstf r1 rfl r2
  case tup.non => exact tupf r1 rfl r2
  case non.lst => exact flst r1 rfl r2
  case non.tup => exact ftup r1 rfl r2
  case lst.bl => exact lstf r1 rfl r2
  case tup.bl => exact tupf r1 rfl r2
  case bl.lst => exact flst r1 rfl r2
  case bl.tup => exact ftup r1 rfl r2
  case lst.int => exact lstf r1 rfl r2
  case tup.int => exact tupf r1 rfl r2
  case int.lst => exact flst r1 rfl r2
  case int.tup => exact ftup r1 rfl r2
  case lst.str => exact lstf r1 rfl r2
  case tup.str => exact tupf r1 rfl r2
  case str.lst => exact flst r1 rfl r2
  case str.tup => exact ftup r1 rfl r2
  all_goals exact flat rfl rfl r1 r2
/-- == and != of plain data -/
def rEqP (K : PySem.W.Frag) (neg : Bool) : R2 := fun x y H Q => ∃ (n : Nat) (G : Hp) (d e : D), Exz G H ∧ Nz G ∧ n ≤ 60 ∧ pl (n + 1) d = true ∧ pl (n + 1) e = true ∧ Rp K G d x ∧ Rp K G e y ∧ Q (.bl (if neg then !eqD d e else eqD d e)) H
theorem op_eqP (hu : X.A.units + 64 < cLine) : OpR X (compareOp .Eq) (rEqP X.K false) := by
  intro pins s sg H x y v u Q I rx ry h
  obtain ⟨n, G, d, e, fz, nz, hn, p1, p2, r1, r2, q⟩ := h
  exact rc_D I fz nz n d e X.A x y v u p1 p2 r1 r2 rx ry (by omega) X.prog X.w X.xe _ ⟨.bl _, H, I, rfl, q⟩
theorem op_neP (hu : X.A.units + 64 < cLine) : OpR X (compareOp .NotEq) (rEqP X.K true) := by
  intro pins s sg H x y v u Q I rx ry h
  obtain ⟨n, G, d, e, fz, nz, hn, p1, p2, r1, r2, q⟩ := h
  exact rn_D I fz nz n d e X.A x y v u p1 p2 r1 r2 rx ry (by omega) X.prog X.w X.xe _ ⟨.bl _, H, I, rfl, q⟩
end
/-! ### by data -/
/-- w stands for the plain data d -/
inductive Pk (ka : Cells) : W → D → Prop where
  | v {d} : Pk ka (.val d) d
  | w {d} : Pk ka (.vw d) d
  | c {a ds} (j : Nat) (h : ka[j]? = some (a, .lst ds)) : Pk ka (.val (.adr a)) (.lst ds)
section
variable {K : PySem.W.Frag} {B F F0 : Hp} {ro : Ro} {ka : Cells} {ta : List (V × W)} {sg : L2.St} {H : Hp} {x y : W}
/-- what may be read with the cells' lists beside -/
def gH (H : Hp) : Hp := fun a => match H a with
  | some (.frz _ u) => if lk u then some u else none
  | z => z
theorem gH_nz : Nz (gH H) := fun a u h => by
  unfold gH at h
  split at h
  · split at h
    · rename_i hx
      cases h
      cases u <;> first | rfl | cases hx
    · cases h
  · rename_i z q
    cases u with
    | frz ob z => exact absurd h (q ob z)
    | _ => rfl
theorem gH_exz : Exz (gH H) H := fun a u h => by
  unfold gH at h
  split at h
  · rename_i ob x q
    split at h
    · rename_i hx
      cases h
      exact .inr ⟨hx, ob, q⟩
    · cases h
  · exact .inl h
theorem exz_gH {G : Hp} (e : Exz G H) (n : Nz G) : Exz G (gH H) := fun a u h => by
  refine .inl ?_
  have hu := n a u h
  unfold gH
  rcases e a u h with q | ⟨k, o, q⟩
  · rw [q]
    cases u with
    | frz o z => cases hu
    | _ => rfl
  · rw [q]
    show (if lk u then some u else none) = some u
    rw [k]
    rfl
theorem Pk.get {d : D} {v : V} (l : Pk ka x d) (e : EnF K B F ro ka ta sg H) (h : WOk K B F v x) : Rp K (gH H) d v := by
  cases l with
  | v => exact Rp.mono (exz_gH e.fz e.nz) e.nz d v h
  | w => exact Rp.mono (exz_gH (uni_exz e.fz e.fr) (uni_nz e.nz)) (uni_nz e.nz) d v h
  | @c a ds j hj =>
    obtain ⟨_, _, xs, h1, h2⟩ := e.ce _ (List.mem_of_getElem? hj)
    have hv : v = .ref a := h
    refine ⟨a, xs, hv, .inl ?_, RpL.mono (exz_gH e.fz e.nz) e.nz _ _ h2⟩
    unfold gH
    rw [h1]
theorem rv_eqP {d e : D} (l1 : Pk ka x d) (l2 : Pk ka y e) (p1 : pl 61 d = true) (p2 : pl 61 e = true) : RvD K (rEqP K false) ka x y (.val (.bl (eqD d e))) := fun B F0 ro ta sg H u v Q en h1 h2 q => by
  obtain ⟨F, g, ef⟩ := id en
  exact ⟨60, gH H, d, e, gH_exz, gH_nz, Nat.le_refl _, p1, p2, l1.get ef (ef.tm _ h1), l2.get ef (ef.tm _ h2), q _ _ (en.push_imm fun _ => rfl)⟩
theorem rv_neP {d e : D} (l1 : Pk ka x d) (l2 : Pk ka y e) (p1 : pl 61 d = true) (p2 : pl 61 e = true) : RvD K (rEqP K true) ka x y (.val (.bl (!eqD d e))) := fun B F0 ro ta sg H u v Q en h1 h2 q => by
  obtain ⟨F, g, ef⟩ := id en
  exact ⟨60, gH H, d, e, gH_exz, gH_nz, Nat.le_refl _, p1, p2, l1.get ef (ef.tm _ h1), l2.get ef (ef.tm _ h2), q _ _ (en.push_imm fun _ => rfl)⟩
end
end DL

/-! DO: operators that a class of the text defines (own work). -/
namespace DL
open PySem L2 PySem.W

section
variable {X : Cx} {CX : CXT} {k : Nat} {C f : Addr} {fd : FuncData} {ps : List Str} {sp : Sp} {E : XK}
/-- the type of a value, as the library looks for it -/
def TyL (X : Cx) (x : V) (H : Hp) (T : String) : Prop := ∀ pins s sg u, Inv X pins sg H s → RelV x u → Looks (model X.prog X.w) s.heap (typeOf u) (.type T)
/-! ### == and != by the class's own __eq__ -/
/-- a type against which x's class goes first: a built-in one, or the class itself -/
inductive TyE (X : Cx) (C : Addr) (H : Hp) : V → Prop where
  | ty {y : V} {T : String} (h : TyL X y H T) (s : subIn X.K (.type T) (.ref C) = some false) : TyE X C H y
  | own {a dx : Addr} {fs : List (Str × V)} (h : H a = some (.ins C dx fs)) : TyE X C H (.ref a)
end
end DL

/-! DF: defs by contract, instances, exceptions by data (own work). -/
namespace DL
open PySem L2 PySem.W

/-! ### defs -/
/-- the def at f keeps the contract C -/
def Fn (P : Program) (w : World) (K : PySem.W.Frag) (mg : Str → Option Value) (base : Heap) (k : Nat) (f : Addr) (ps : List Str) (C : Ct) : Prop := ∃ fd, FnOk P w K mg base (L2.CX P w) k f fd ps (spC K C) ∧ Binds K fd ps []
section
variable {P : Program} {w : World} {K : PySem.W.Frag} {mg : Str → Option Value} {base : Heap} {f : Addr} {fd : FuncData} {x qual : Str} {params : Arguments} {body : List Stmt} {scope : Scope} {ps N : List Str} {k j : Nat} {C : Ct}
theorem Fn.up (F : Fn P w K mg base j f ps C) (h : j ≤ k) : Fn P w K mg base k f ps C := let ⟨fd, a, b⟩ := F; ⟨fd, a.mono h, b⟩
theorem fn_okG {dvs : List V} (F : FunD K x qual params body scope dvs [] f fd) (S : FnScope N ps scope)
    (hl : ∀ ws ka out, C ws ka out → ws.length = ps.length)
    (h : ∀ (cdv : Value) (A : Around) (outer : List Env) (s : Shared) (H : Hp) (E : XK), Room k (A.deeper (PyProof.Rows.envOfC qual scope s.heap.objs.size f cdv)) →
      ∃ t, PSs (cxOf (L2.CX P w) P w K mg base N qual scope f cdv A outer s H E) body t ∧
        ∀ ws ka out B F0 Q, C ws ka out → RtOk K B F0 out Q → RxOk K B F0 out E → Gp K B F0 [] (t { nx := fun _ H' => Q .non H', rt := Q }) (ws.map some ++ List.replicate (N.length - ps.length) none) ka) : FnOk P w K mg base (L2.CX P w) (k + 1) f fd ps (spC K C) := by
  refine (F.ok S (fun vs H Q E h => ?_) (fun cdv A outer s H vs Q E hr hs => ?_))
  · obtain ⟨B, F', ws, ka, out, hC, l, _⟩ := h
    rw [l]
    exact hl _ _ _ hC
  · obtain ⟨t, d, p⟩ := h cdv A outer s H E hr
    obtain ⟨B, F0, ws, ka, out, hC, l, ⟨F1, g1, en⟩, hR, hX⟩ := hs
    refine ⟨t, d, p ws ka out B F0 Q hC hR hX _ H ⟨F1, g1, ?_⟩⟩
    have hw := hl _ _ _ hC
    refine (en.frame (ro' := ws.map some ++ List.replicate (N.length - ps.length) none) (sg' := L2.start N vs) ?_ fun i w2 e => ?_).held fun p hp => by cases hp
    · unfold L2.start
      rw [List.length_append, List.length_append, List.length_map, List.length_map, List.length_replicate, List.length_replicate, l, hw]
    · unfold L2.start
      by_cases hi : i < ws.length
      · rw [List.getElem?_append_left (by rw [List.length_map]; exact hi), List.getElem?_map, List.getElem?_eq_getElem hi] at e
        have e' : ws[i] = w2 := by simpa using e
        rw [List.getElem?_append_left (by rw [List.length_map, l]; exact hi), List.getElem?_map, List.getElem?_eq_getElem (by rw [l]; exact hi)]
        refine ⟨vs[i], rfl, ?_⟩
        have := en.tm (vs[i]'(by rw [l]; exact hi), ws[i]) (by
          have hz : (vs.zip ws)[i]? = some (vs[i]'(by rw [l]; exact hi), ws[i]) := by
            rw [List.getElem?_zip_eq_some]
            exact ⟨List.getElem?_eq_getElem _, List.getElem?_eq_getElem _⟩
          exact List.mem_of_getElem? hz)
        rw [e'] at this
        exact this
      · rw [List.getElem?_append_right (by rw [List.length_map]; omega), List.getElem?_replicate] at e
        split at e <;> cases e
theorem fn_okF (F : FunD K x qual params body scope [] [] f fd) (S : FnScope N ps scope)
    (hb : ∀ (kV doc pm : Value) (an : Option Addr) (cdv ct : Value) (us : List Value), us.length = ps.length → bindArgs (PySem.W.fnOf x qual params body scope .none kV doc pm an cdv ct) ⟨us, []⟩ = pure (ps.zip us))
    (hl : ∀ ws ka out, C ws ka out → ws.length = ps.length)
    (h : ∀ (cdv : Value) (A : Around) (outer : List Env) (s : Shared) (H : Hp) (E : XK), Room k (A.deeper (PyProof.Rows.envOfC qual scope s.heap.objs.size f cdv)) →
      ∃ t, PSs (cxOf (L2.CX P w) P w K mg base N qual scope f cdv A outer s H E) body t ∧
        ∀ ws ka out B F0 Q, C ws ka out → RtOk K B F0 out Q → RxOk K B F0 out E → Gp K B F0 [] (t { nx := fun _ H' => Q .non H', rt := Q }) (ws.map some ++ List.replicate (N.length - ps.length) none) ka) : FnOk P w K mg base (L2.CX P w) (k + 1) f fd ps (spC K C) := fn_okG F S hl h
theorem fn_ok (F : FunD K x qual params body scope [] [] f fd) (S : FnScope N ps scope)
    (hb : ∀ (kV doc pm : Value) (an : Option Addr) (cdv ct : Value) (us : List Value), us.length = ps.length → bindArgs (PySem.W.fnOf x qual params body scope .none kV doc pm an cdv ct) ⟨us, []⟩ = pure (ps.zip us))
    (hl : ∀ ws ka out, C ws ka out → ws.length = ps.length)
    (h : ∀ (cdv : Value) (A : Around) (outer : List Env) (s : Shared) (H : Hp) (E : XK), Room k (A.deeper (PyProof.Rows.envOfC qual scope s.heap.objs.size f cdv)) →
      ∃ t, PSs (cxOf (L2.CX P w) P w K mg base N qual scope f cdv A outer s H E) body t ∧
        ∀ ws ka out B F0 Q, C ws ka out → RtOk K B F0 out Q → RxOk K B F0 out E → Gp K B F0 [] (t { nx := fun _ H' => Q .non H', rt := Q }) (ws.map some ++ List.replicate (N.length - ps.length) none) ka) : Fn P w K mg base (k + 1) f ps C := ⟨fd, fn_okF F S hb hl h, F.bindsN hb⟩
end
/-- the def behind a contract, and what is known of it -/
noncomputable def Fn.fd {P : Program} {w : World} {K : PySem.W.Frag} {mg : Str → Option Value} {base : Heap} {k : Nat} {f : Addr} {ps : List Str} {C : Ct} (F : Fn P w K mg base k f ps C) : FuncData := Classical.choose F
theorem Fn.ok {P : Program} {w : World} {K : PySem.W.Frag} {mg : Str → Option Value} {base : Heap} {k : Nat} {f : Addr} {ps : List Str} {C : Ct} (F : Fn P w K mg base k f ps C) : FnOk P w K mg base (L2.CX P w) k f F.fd ps (spC K C) := (Classical.choose_spec F).1
theorem Fn.bn {P : Program} {w : World} {K : PySem.W.Frag} {mg : Str → Option Value} {base : Heap} {k : Nat} {f : Addr} {ps : List Str} {C : Ct} (F : Fn P w K mg base k f ps C) : Binds K F.fd ps [] := (Classical.choose_spec F).2
section
variable {X : Cx}
theorem passes_no : Passes (L2.CX X.prog X.w) X (fun _ _ _ => False) := fun _ _ _ _ _ _ _ ⟨_, _, _, _, _, _, _, _, _, _, _, _, z⟩ => z.elim
end
end DL

/-! DG: instances by data (own work). -/
namespace DL
open PySem L2 PySem.W

section
variable {K : PySem.W.Frag} {B F F0 : Hp} {ro : Ro} {ka k1 k2 k3 kr : Cells} {ta : List (V × W)} {sg : L2.St} {H H' : Hp} {te tf tg : TE} {tr : TA} {tt : TT} {w x y z : W} {n : Nd} {C dx a : Addr} {fs : List (Str × D)} {b : Bool}

theorem rpf_lookup {F : Hp} : ∀ {fs : List (Str × D)} {xs : List (Str × V)} {f : Str} {d : D}, RpF K F fs xs → fs.lookup f = some d → ∃ v, xs.lookup f = some v ∧ Rp K F d v
  | [], _, _, _, _, e => by cases e
  | (g, d0) :: fs, xs, f, d, h, e => by
    obtain ⟨x, ys, rfl, h1, h2⟩ := h
    unfold List.lookup at e ⊢
    cases q : (f == g) with
    | true =>
      rw [q] at e
      cases e
      exact ⟨x, rfl, h1⟩
    | false =>
      rw [q] at e
      exact rpf_lookup h2 e
/-- w is an instance of the class at C with the fields fs; b: viewed -/
inductive Io (ka : Cells) : W → Addr → List (Str × D) → Bool → Prop where
  | v {D1 : Addr} {gs : List (Str × D)} : Io ka (.val (.ins D1 gs)) D1 gs false
  | w {D1 : Addr} {gs : List (Str × D)} : Io ka (.vw (.ins D1 gs)) D1 gs true
  | c {p D1 : Addr} {gs : List (Str × D)} (j : Nat) (h : ka[j]? = some (p, .ins D1 gs)) : Io ka (.val (.adr p)) D1 gs false
theorem rd_ins {H : Hp} {dx : Addr} {xs : List (Str × V)} (n : Nz F) (e : Exz F H) (h : Rd F a (.ins C dx xs)) : H a = some (.ins C dx xs) := by
  rcases h with h | ⟨o, h⟩
  · exact e.at h rfl
  · have := n a _ h
    cases this
/-- the built-in type of a value, by the abstract heap -/
inductive TyV (K : PySem.W.Frag) (H : Hp) : V → String → Prop where
  | non : TyV K H .non "NoneType"
  | bl {b : Bool} : TyV K H (.bl b) "bool"
  | int {b : Int} : TyV K H (.int b) "int"
  | str {b : Str} : TyV K H (.str b) "str"
  | lst {a : Addr} {xs : List V} (h : SqL K H a xs) : TyV K H (.ref a) "list"
  | tup {a : Addr} {xs : List V} (h : SqT K H a xs) : TyV K H (.ref a) "tuple"
inductive TyE2 (K : PySem.W.Frag) (C : Addr) (H : Hp) : V → Prop where
  | ty {y : V} {T : String} (h : TyV K H y T) (s : subIn K (.type T) (.ref C) = some false) : TyE2 K C H y
  | own {a dx : Addr} {gs : List (Str × V)} (h : H a = some (.ins C dx gs)) : TyE2 K C H (.ref a)
theorem Io.get {v : V} (l : Io ka w C fs b) (e : EnF K B F ro ka ta sg H) (h : WOk K B F v w) : ∃ a dx xs, v = .ref a ∧ H a = some (.ins C dx xs) ∧ RpF K (if b then uni B F else F) fs xs := by
  cases l with
  | v =>
    obtain ⟨a, dx, xs, rfl, h1, h2⟩ := h
    exact ⟨a, dx, xs, rfl, rd_ins e.nz e.fz h1, h2⟩
  | w =>
    obtain ⟨a, dx, xs, rfl, h1, h2⟩ := h
    exact ⟨a, dx, xs, rfl, rd_ins (uni_nz e.nz) (uni_exz e.fz e.fr) h1, h2⟩
  | @c a C fs j hj =>
    obtain ⟨_, _, dx, xs, h1, h2⟩ := e.ce _ (List.mem_of_getElem? hj)
    exact ⟨a, dx, xs, h, h1, h2⟩
theorem Io.en {v : V} (l : Io ka w C fs b) (e : En K B F0 ro ka ta sg H) (h : (v, w) ∈ ta) : ∃ a dx xs, v = .ref a ∧ H a = some (.ins C dx xs) := by
  obtain ⟨F, g, e⟩ := e
  obtain ⟨a, dx, xs, h1, h2, _⟩ := l.get e (e.tm _ h)
  exact ⟨a, dx, xs, h1, h2⟩
/-- o.f, a field -/
theorem ev_fld {f : Str} {d : D} (h : EvD K te ro ka w k1) (l : Io k1 w C fs b) (c : Cls K C) (nf : NoAttr K C f) (hd : fs.lookup f = some d) : EvD K (tFld K te f) ro ka (part b d) k1 := fun B F0 ta sg H Q e q => h B F0 ta sg H _ e fun v H1 e1 => by
  obtain ⟨F, g, e1⟩ := e1
  obtain ⟨a, dx, xs, rfl, h1, h2⟩ := l.get e1 (e1.tm _ List.mem_cons_self)
  obtain ⟨v, h3, h4⟩ := rpf_lookup h2 hd
  refine ⟨a, C, dx, xs, v, rfl, h1, c, nf, h3, q v H1 ⟨F, g, ?_⟩⟩
  exact (e1.held (ta' := ta) fun p hp => List.mem_cons_of_mem _ hp).push (wok_part b h4)

/-! ### calls by contract: how they end -/
/-- the call ends with an exception of the class C1 -/
theorem sp_exc {Cc : Ct} {ws : List W} {out : Out → Cells → Prop} {vs : List V} {E : XK} {Q : VK} {C1 : Addr} {fs : List (Str × D)} (e : En K B F0 ro (ka ++ kr) (vs.zip ws ++ ta) sg H) (hl : vs.length = ws.length) (hC : Cc ws ka out) (ho : ∀ o k, out o k → o = .exc C1 fs ∧ k = k2)
    (q : ∀ dx H', En K B F0 ro (k2 ++ [(dx, .xd fs)] ++ kr) ta sg H' → E (.ref C1) (some dx) H') : spC K Cc vs H Q E := by
  obtain ⟨F, g, e⟩ := e
  refine ⟨off H ka, F, ws, ka, out, hC, hl, ⟨F, Gr.refl _ _, e.into (ro' := []) (sg' := []) (ta' := vs.zip ws) rfl (fun i w h => by simp at h) fun p hp => List.mem_append_left _ hp⟩, fun d' k v H' o _ => ?_, fun C fs k dx H' o ⟨F', g', e'⟩ => ?_, fun C k H' o _ => ?_⟩
  · have := (ho _ _ o).1
    cases this
  · obtain ⟨hd, rfl⟩ := ho _ _ o
    cases hd
    obtain ⟨g2, e2⟩ := e.back g' e' (tb := ta) fun p hp => .inl (List.mem_append_right _ hp)
    exact q dx H' ⟨F', g.trans g2, e2⟩
  · have := (ho _ _ o).1
    cases this
/-- the call comes back with a new cell -/
theorem sp_new {Cc : Ct} {ws : List W} {out : Out → Cells → Prop} {vs : List V} {E : XK} {Q : VK} {m : Nd} (e : En K B F0 ro (ka ++ kr) (vs.zip ws ++ ta) sg H) (hl : vs.length = ws.length) (hC : Cc ws ka out) (ho : ∀ o k, out o k → ∃ a, o = .ret (.adr a) ∧ k = k2 ++ [(a, m)])
    (q : ∀ a H', En K B F0 ro (k2 ++ kr ++ [(a, m)]) ta sg H' → Q (.ref a) H') : spC K Cc vs H Q E := by
  obtain ⟨F, g, e⟩ := e
  refine ⟨off H ka, F, ws, ka, out, hC, hl, ⟨F, Gr.refl _ _, e.into (ro' := []) (sg' := []) (ta' := vs.zip ws) rfl (fun i w h => by simp at h) fun p hp => List.mem_append_left _ hp⟩, fun d' k v H' o ⟨F', g', e'⟩ => ?_, fun C fs k dx H' o _ => ?_, fun C k H' o _ => ?_⟩
  · obtain ⟨a, hd, rfl⟩ := ho _ _ o
    cases hd
    have hv : v = .ref a := e'.tm (v, .val (.adr a)) List.mem_cons_self
    subst hv
    obtain ⟨g2, e2⟩ := e.back g' e' (tb := ta) fun p hp => .inl (List.mem_append_right _ hp)
    refine q a H' ⟨F', g.trans g2, e2.perm ?_⟩
    rw [List.append_assoc, List.append_assoc]
    exact List.Perm.append_left _ List.perm_append_comm
  · obtain ⟨a, z, _⟩ := ho _ _ o
    cases z
  · obtain ⟨a, z, _⟩ := ho _ _ o
    cases z
theorem evn_call {Cc : Ct} {ws : List W} {out : Out → Cells → Prop} {E : XK} {m : Nd} (kr : Cells) (ha : EvA K tr ro ka ws (k1 ++ kr)) (hC : Cc ws k1 out) (ho : ∀ o k, out o k → ∃ a, o = .ret (.adr a) ∧ k = k2 ++ [(a, m)]) : EvN K (tCall (spC K Cc) [] E tr) ro ka m (k2 ++ kr) := fun B F0 ta sg H Q e q =>
  ha B F0 ta sg H _ e fun vs H1 hl e1 => by
    rw [List.append_nil]
    exact sp_new e1 hl hC ho q
/-- o.f, a property -/
theorem ev_prop {Cc : Ct} {out : Out → Cells → Prop} {E : XK} {d : D} (kr : Cells) (h : EvD K te ro ka w (k1 ++ kr)) (l : Io (k1 ++ kr) w C fs b) (hC : Cc [w] k1 out) (ho : ∀ o k, out o k → o = .ret d ∧ k = k1) : EvD K (tProp C (spC K Cc) [] E te) ro ka (.val d) (k1 ++ kr) := fun B F0 ta sg H Q e q => h B F0 ta sg H _ e fun u H1 e1 => by
  obtain ⟨a, dx, xs, rfl, ha⟩ := l.en e1 List.mem_cons_self
  exact ⟨a, dx, xs, rfl, ha, sp_ret (vs := [.ref a]) (ws := [w]) (ta := ta) e1 rfl hC ho q⟩
/-- own == own, own != own, or a built-in's value -/
inductive Eo (ka : Cells) : W → Addr → Prop where
  | io {u : W} {D1 : Addr} {gs : List (Str × D)} {b1 : Bool} (l : Io ka u D1 gs b1) : Eo ka u D1
  | non {D1 : Addr} : Eo ka (.val .non) D1
  | bl {b1 : Bool} {D1 : Addr} : Eo ka (.val (.bl b1)) D1
  | int {b1 : Int} {D1 : Addr} : Eo ka (.val (.int b1)) D1
  | str {b1 : Str} {D1 : Addr} : Eo ka (.val (.str b1)) D1
  | sq {u : W} {t b1 : Bool} {ds : List D} {D1 : Addr} (l : Lk ka u t ds b1) : Eo ka u D1
theorem Eo.at {u : V} (hT : EqT K C) (l : Eo ka y C) (e : En K B F0 ro ka ta sg H) (h : (u, y) ∈ ta) : TyE2 K C H u := by
  cases l with
  | io l =>
    obtain ⟨a, dx, xs, rfl, ha⟩ := l.en e h
    exact .own ha
  | non =>
    obtain rfl := e.tm_non h
    exact .ty .non (hT _ (by simp))
  | bl =>
    obtain rfl := e.tm_bl h
    exact .ty .bl (hT _ (by simp))
  | int =>
    obtain rfl := e.tm_int h
    exact .ty .int (hT _ (by simp))
  | str =>
    obtain rfl := e.tm_str h
    exact .ty .str (hT _ (by simp))
  | @sq x t ds b C l =>
    obtain ⟨F, g, e⟩ := e
    obtain ⟨a, xs, rfl, h1, _⟩ := l.get e (e.tm _ h)
    cases t with
    | false => exact .ty (.lst (.inl h1)) (hT _ (by simp))
    | true => exact .ty (.tup h1) (hT _ (by simp))
/-- own << other and the like: the other of a built-in type -/
structure TyWf (K : PySem.W.Frag) (C : Addr) (op : Operator) (ka : Cells) (y : W) : Prop where
  at_ : ∀ B F0 ro ta sg H u, En K B F0 ro ka ta sg H → (u, y) ∈ ta → ∃ T, TyV K H u T ∧ BoT K C op T
end
end DL

/-! DH: making objects, isinstance, conversions, exceptions by data (own work). -/
namespace DL
open PySem L2 PySem.W

section
variable {K : PySem.W.Frag} {B F F0 : Hp} {ro : Ro} {ka k1 k2 k3 kr : Cells} {ta : List (V × W)} {sg : L2.St} {H H' : Hp} {te tf tg : TE} {tr : TA} {tt : TT} {w x y z : W} {n : Nd} {C dx a : Addr} {fs : List (Str × D)} {b : Bool} {P : L2.St → Hp → Prop}

/-! ### an instance cell, frozen -/
theorem En.freeze_i (e : En K B F0 ro (ka ++ [(a, .ins C fs)]) ta sg H) : En K B F0 ro ka ((.ref a, .val (.ins C fs)) :: ta) sg H := by
  obtain ⟨F, g, e⟩ := e
  obtain ⟨fa, ba, dx, xs, ha, rl⟩ := e.ce (a, .ins C fs) (by simp)
  have gg : Gr B F (upd F a (.ins C dx xs)) := ⟨Sub.new fa, fun b h1 h2 => by
    have ne : b ≠ a := fun q => h2 (q ▸ ba)
    rw [upd_ne ne]
    exact h1⟩
  have nd2 := e.nd
  rw [List.map_append, List.nodup_append] at nd2
  refine ⟨upd F a (.ins C dx xs), g.trans gg, ⟨fun b u h => ?_, fun b u h => ?_, e.fr, nd2.1, fun q hq => ?_, e.ln, fun i w h => ?_, fun q hq => ?_⟩⟩
  · by_cases hb : b = a
    · subst hb; rw [upd_same] at h; cases h; rfl
    · rw [upd_ne hb] at h; exact e.nz b u h
  · by_cases hb : b = a
    · subst hb; rw [upd_same] at h; cases h; exact .inl ha
    · rw [upd_ne hb] at h; exact e.fz b u h
  · obtain ⟨h1, h2, h3⟩ := e.ce q (List.mem_append_left _ hq)
    have nq : q.1 ≠ a := fun z => nd2.2.2 q.1 (List.mem_map.mpr ⟨q, hq, rfl⟩) a (by simp) z
    exact ⟨by rw [upd_ne nq]; exact h1, h2, ndok_gr e.nz gg h3⟩
  · obtain ⟨v, h1, h2⟩ := e.sl i w h
    exact ⟨v, h1, wok_gr e.nz gg h2⟩
  · rcases List.mem_cons.mp hq with rfl | hq
    · exact ⟨a, dx, xs, rfl, .inl upd_same, RpF.mono gg.sub.exz e.nz _ _ rl⟩
    · exact wok_gr e.nz gg (e.tm q hq)
theorem EvN.ins {fs : List (Str × D)} (h : EvN K te ro ka (.ins C fs) k1) : EvD K te ro ka (.val (.ins C fs)) k1 := fun B F0 ta sg H Q e q => h B F0 ta sg H Q e fun a H1 e1 => q _ _ e1.freeze_i
/-- fewer cells -/
theorem En.less (e : En K B F0 ro ka ta sg H) (h : k1.Sublist ka) : En K B F0 ro k1 ta sg H := let ⟨F, g, q⟩ := e; ⟨F, g, q.cells h⟩
theorem EvD.less (h : EvD K te ro ka w k1) (s : k2.Sublist k1) : EvD K te ro ka w k2 := fun B F0 ta sg H Q e q => h B F0 ta sg H Q e fun v H1 e1 => q v H1 (e1.less s)
theorem Gp.less (h : Gp K B F0 ta P ro k1) (s : k1.Sublist ka) : Gp K B F0 ta P ro ka := fun sg H e => h sg H (e.less s)
/-! ### C(e, ..) -/
/-- C(..): __init__ by contract; a new cell -/
theorem evn_make {Cc : Ct} {ws : List W} {E : XK} {m : Nd} (ha : EvA K tr ro ka ws k1)
    (hC : ∀ a, ∃ out, Cc (.val (.adr a) :: ws) (k1 ++ [(a, .ins C [])]) out ∧ ∀ o k, out o k → o = .ret .non ∧ k = k2 ++ [(a, m)]) : EvN K (tMake C (spC K Cc) [] E tr) ro ka m k2 := fun B F0 ta sg H Q e q =>
  ha B F0 ta sg H _ e fun vs H1 hl e1 => by
    intro x dx hx hd hne
    rw [List.append_nil]
    obtain ⟨F, g, e1⟩ := e1
    obtain ⟨e2, g2⟩ := e1.lay (o := .own x) hd rfl
    have hx2 : upd H1 dx (.own x) x = none := by rw [upd_ne (Ne.symm hne)]; exact hx
    have e3 := e2.cell (o := .ins C dx []) hx2 (n := .ins C []) ⟨dx, [], upd_same, rfl⟩
    have e4 := e3.push (v := .ref x) (w := .val (.adr x)) rfl
    obtain ⟨out, hC, ho⟩ := hC x
    have e5 : En K B F0 ro ((k1 ++ [(x, .ins C [])]) ++ []) ((V.ref x :: vs).zip (W.val (.adr x) :: ws) ++ ta) sg (upd (upd H1 dx (.own x)) x (.ins C dx [])) := by
      rw [List.append_nil]
      exact ⟨_, g.trans g2, e4⟩
    refine sp_ret (k2 := k2 ++ [(x, m)]) e5 (by rw [List.length_cons, List.length_cons, hl]) hC ho fun v H' e6 => ?_
    rw [List.append_nil] at e6
    exact ⟨e6.tm_non List.mem_cons_self, q x H' e6.pop⟩
/-- self.f = e, self a cell -/
def putD (f : Str) (v : D) : List (Str × D) → List (Str × D)
  | [] => [(f, v)]
  | (g, x) :: r => if g = f then (g, v) :: r else (g, x) :: putD f v r
theorem rpf_put {F : Hp} {f : Str} {v : V} {d : D} (hv : Rp K F d v) : ∀ {fs : List (Str × D)} {xs : List (Str × V)}, RpF K F fs xs → RpF K F (putD f d fs) (putF f v xs)
  | [], xs, h => by rw [show xs = [] from h]; exact ⟨v, [], rfl, hv, rfl⟩
  | (g, d0) :: fs, xs, h => by
    obtain ⟨x, ys, rfl, h1, h2⟩ := h
    unfold putD putF
    by_cases q : g = f
    · rw [if_pos q, if_pos q]
      exact ⟨v, ys, rfl, hv, h2⟩
    · rw [if_neg q, if_neg q]
      exact ⟨x, _, rfl, h1, rpf_put hv h2⟩
theorem rpf_len {F : Hp} : ∀ {fs : List (Str × D)} {xs : List (Str × V)}, RpF K F fs xs → xs.length = fs.length
  | [], xs, h => by rw [show xs = [] from h]; rfl
  | _ :: fs, xs, h => by
    obtain ⟨x, ys, rfl, _, h2⟩ := h
    rw [List.length_cons, List.length_cons, rpf_len h2]
theorem g_fld {f : Str} {d : D} {j : Nat} {De : Ends} (hv : EvD K tf ro ka (.val d) k1) (ho : EvD K te ro k1 (.val (.adr a)) k2) (hj : k2[j]? = some (a, .ins C fs)) (c : Cls K C) (nf : NoAttr K C f) (hz : fs.length < 900)
    (k : Gp K B F0 ta De.nx ro (k2.set j (a, .ins C (putD f d fs)))) : Gp K B F0 ta (sFld K te tf f De) ro ka := fun sg H e => hv B F0 ta sg H _ e fun v H1 e1 => ho B F0 _ sg H1 _ e1 fun u H2 e2 => by
  have hu := e2.tm_adr List.mem_cons_self
  subst hu
  obtain ⟨F, g, e2⟩ := e2
  obtain ⟨_, _, dx, xs, hx, rx⟩ := e2.ce _ (List.mem_of_getElem? hj)
  have hv := e2.tm (v, .val d) (List.mem_cons_of_mem _ List.mem_cons_self)
  refine ⟨a, C, dx, xs, rfl, hx, c, nf, by rw [rpf_len rx]; omega, k _ _ ⟨F, g, ?_⟩⟩
  exact (e2.write (o := .ins C dx (putF f v xs)) (n' := .ins C (putD f d fs)) hj ⟨dx, _, upd_same, rpf_put hv rx⟩).held fun p hp => List.mem_cons_of_mem _ (List.mem_cons_of_mem _ hp)
/-! ### isinstance -/
/-- the type of what w stands for -/
inductive Tw (K : PySem.W.Frag) (ka : Cells) : W → Value → Prop where
  | non : Tw K ka (.val .non) (.type "NoneType")
  | bl {i : Bool} : Tw K ka (.val (.bl i)) (.type "bool")
  | int {i : Int} : Tw K ka (.val (.int i)) (.type "int")
  | str {i : Str} : Tw K ka (.val (.str i)) (.type "str")
  | lst {u : W} {ds : List D} {b1 : Bool} (l : Lk ka u false ds b1) : Tw K ka u (.type "list")
  | tup {u : W} {ds : List D} {b1 : Bool} (l : Lk ka u true ds b1) : Tw K ka u (.type "tuple")
  | io {u : W} {D1 : Addr} {gs : List (Str × D)} {b1 : Bool} (l : Io ka u D1 gs b1) (c : ClsI K D1) : Tw K ka u (.ref D1)
theorem Tw.at {t : Value} {v : V} (l : Tw K ka w t) (e : En K B F0 ro ka ta sg H) (h : (v, w) ∈ ta) : TyX K H v t := by
  cases l with
  | non => obtain rfl := e.tm_non h; exact .base .non
  | bl => obtain rfl := e.tm_bl h; exact .base (.bl _)
  | int => obtain rfl := e.tm_int h; exact .base (.int _)
  | str => obtain rfl := e.tm_str h; exact .base (.str _)
  | lst l =>
    obtain ⟨F, g, e⟩ := e
    obtain ⟨a, xs, rfl, h1, _⟩ := l.get e (e.tm _ h)
    rcases (show Rd H a (.lst xs) from h1) with h1 | ⟨o, h1⟩
    · exact .base (.lst h1)
    · exact .base (.frz h1)
  | tup l =>
    obtain ⟨F, g, e⟩ := e
    obtain ⟨a, xs, rfl, h1, _⟩ := l.get e (e.tm _ h)
    rcases (show SqT K H a xs from h1) with h1 | h1
    · rcases h1 with h1 | ⟨o, h1⟩
      · exact .base (.tup h1)
      · exact .fTuple h1
    · obtain ⟨o, its, n, q1, q2, _⟩ := h1
      exact .kTuple q1 q2
  | io l c =>
    obtain ⟨a, dx, xs, rfl, ha⟩ := l.en e h
    exact .base (.ins ha c.cl c.ha c.hn c.htk c.hm)
theorem rc_isi {T : String} {t : Value} {b : Bool} (l : Tw K ka w t) (h : kitOne K t (.type T) = some b) : RcD K (rIsi K) ka [w, .val (.ty T)] (.val (.bl b)) := fun B F0 ro ta sg H us Q e hl hm q => by
  obtain ⟨u, v, rfl, h1, h2⟩ := zip_two hl hm
  have hv : v = .ty T := e.tm_ty h2
  subst hv
  exact ⟨u, .ty T, t, .type T, b, rfl, .ty T, l.at e h1, h, q _ _ (e.push_imm fun _ => rfl)⟩
end
end DL

/-! DJ: raise, try, by data; conversions (own work). -/
namespace DL
open PySem L2 PySem.W

/-! ### own exception classes -/
theorem slots_six {sl : Array (Option Value)} (h : slotsOk sl = true) : ∃ a b c d e, sl = #[a, b, c, d, some (.builtin "ValueError.__new__"), e] := by
  obtain ⟨h1, h2⟩ := Bool.and_eq_true_iff.mp h
  have h1 := beq_iff_eq.mp h1
  have h2 := beq_iff_eq.mp h2
  obtain ⟨l⟩ := sl
  match l, h1, h2 with
  | [a, b, c, d, x, e], _, h2 =>
    have : x = some (.builtin "ValueError.__new__") := by simpa using h2
    exact ⟨a, b, c, d, e, by rw [this]⟩
theorem oexB_ok {K : PySem.W.Frag} {C : Addr} (h : oexB K C = true) : OexC K C := by
  have h := Bool.and_eq_true_iff.mp h
  have r1 := Bool.and_eq_true_iff.mp h.2
  have r2 := Bool.and_eq_true_iff.mp r1.2
  have r3 := Bool.and_eq_true_iff.mp r2.2
  refine ⟨?_, of_decide_eq_true r1.1, of_decide_eq_true r2.1, of_decide_eq_true r3.1, r3.2⟩
  obtain ⟨o, ho, h1⟩ : ∃ o, K.lookup C = some o ∧ errObj C o = true := by
    cases q : K.lookup C with
    | none => have := h.1; rw [q] at this; cases this
    | some o => have := h.1; rw [q] at this; exact ⟨o, rfl, this⟩
  have k1 := Bool.and_eq_true_iff.mp h1
  have k2 := Bool.and_eq_true_iff.mp k1.2
  have hc := beq_iff_eq.mp k1.1
  obtain ⟨s0, s1, s2, s3, s5, hs⟩ := slots_six k2.1
  obtain ⟨oc, od, dt, sl⟩ := o
  cases dt with
  | cls cd =>
    have l1 := Bool.and_eq_true_iff.mp (show (!cd.hasDel && (cd.hasDict && _)) = true from k2.2)
    have l2 := Bool.and_eq_true_iff.mp l1.2
    have hdel : cd.hasDel = false := by simpa using l1.1
    have hdict : cd.hasDict = true := l2.1
    cases hm : cd.mro with
    | nil => have := l2.2; rw [hm] at this; cases this
    | cons x r =>
      have l3 : (x == .ref C && PySem.HandSPX.refsVE r) = true := by have := l2.2; rw [hm] at this; exact this
      have l4 := Bool.and_eq_true_iff.mp l3
      have hx := beq_iff_eq.mp l4.1
      refine ⟨cd.name, cd.qualname, cd.ns, cd.bases, r, cd.slotNames, cd.subclasses, cd.abstract, cd.collection, od, s0, s1, s2, s3, s5, ?_, l4.2⟩
      rw [ho]
      have hc : oc = .type "type" := hc
      have hs : sl = _ := hs
      subst hc hs hx
      cases cd
      cases hm
      cases hdel
      cases hdict
      rfl
  | _ => cases k2.2
/-- what a raised own error with fields asks of the text -/
structure Xc (K : PySem.W.Frag) (C : Addr) : Prop where
  oex : OexC K C
  xf : XfC K C
theorem xcB_ok {K : PySem.W.Frag} {C : Addr} (h : xcB K C = true) : Xc K C := let ⟨a, b⟩ := Bool.and_eq_true_iff.mp h; ⟨oexB_ok a, xfB_ok b⟩
/-- __init__(self, x): self.f = x -/
def spI1 (K : PySem.W.Frag) (C : Addr) (f : Str) : Sp := fun vs H Q _ => ∃ a y, vs = [.ref a, y] ∧ OexC K C ∧ findIn K (.ref C) f = some none ∧ H a = some (exo a C none) ∧
  ∀ d, H d = none → d ≠ a → Q .non (upd (upd H d (exd d [(f, y)])) a (exo a C (some d)))
theorem init1_ok {P : Program} {w : World} {K : PySem.W.Frag} {mg : Str → Option Value} {base : Heap} {f C : Addr} {fd : FuncData} {nm qual x fld : Str} {params : Arguments} {body : List Stmt} {scope : Scope} {k : Nat} {CX : CXT}
    (F : FunD K nm qual params body scope [] [] f fd) (S : FnScope ["self", x] ["self", x] scope)
    (h : ∀ (cdv : Value) (A : Around) (outer : List Env) (s : Shared) (H : Hp) (E : XK), PSs (cxOf CX P w K mg base ["self", x] qual scope f cdv A outer s H E) body (tOst K fld (tVar 0) (tVar 1))) : FnOk P w K mg base CX (k + 1) f fd ["self", x] (spI1 K C fld) :=
  F.ok S (fun vs H Q E ⟨a, y, e, _⟩ => by rw [e]; rfl) fun cdv A outer s H vs Q E hr ⟨a, y, e, T, hno, ha, q⟩ => ⟨_, h cdv A outer s H E, by
    subst e
    exact ⟨y, rfl, .ref a, rfl, a, C, rfl, T, hno, .inl ⟨ha, q⟩⟩⟩
section
variable {K : PySem.W.Frag} {B F F0 : Hp} {ro : Ro} {ka k1 k2 k3 kr : Cells} {ta : List (V × W)} {sg : L2.St} {H H' : Hp} {te tf tg : TE} {tr : TA} {tt : TT} {w x y z : W} {n : Nd} {C dx a : Addr} {fs : List (Str × D)} {b : Bool} {P : L2.St → Hp → Prop}
theorem mk1_of {fld : Str} {d : D} {Q : XK} (ha : EvA K tr ro ka [.val d] k1) (T : OexC K C) (hno : findIn K (.ref C) fld = some none) (e : En K B F0 ro ka ta sg H)
    (q : ∀ dx H', En K B F0 ro (k1 ++ [(dx, .xd [(fld, d)])]) ta sg H' → Q (.ref C) (some dx) H') : tMkO C (spI1 K C fld) [] tr sg H Q := ha B F0 ta sg H _ e fun vs H1 hl e1 => by
  match vs, hl with
  | [v], _ =>
    refine ⟨by show 1 ≤ 1000; omega, fun a hna => ⟨a, v, rfl, T, hno, upd_same, fun dd hd hne => ⟨rfl, dd, [(fld, v)], upd_same, ?_, ?_, ?_⟩⟩⟩
    · rw [upd_ne hne, upd_same]
    · rwa [upd_ne hne] at hd
    · have hd1 : H1 dd = none := by rwa [upd_ne hne] at hd
      have eH : upd (del (upd (upd (upd H1 a (exo a C none)) dd (exd dd [(fld, v)])) a (exo a C (some dd))) a) dd (.xd [(fld, v)]) = upd H1 dd (.xd [(fld, v)]) := by
        funext b
        by_cases h1 : b = dd
        · subst h1
          rw [upd_same, upd_same]
        · rw [upd_ne h1, upd_ne h1]
          by_cases h2 : b = a
          · subst h2
            rw [del_same, hna]
          · rw [del_ne h2, upd_ne h2, upd_ne h1, upd_ne h2]
      rw [eH]
      obtain ⟨F, g, e1⟩ := e1
      have hv : WOk K B F v (.val d) := e1.tm _ (List.mem_append_left _ List.mem_cons_self)
      exact q dd _ ⟨F, g, (e1.cell (o := .xd [(fld, v)]) hd1 (n := .xd [(fld, d)]) ⟨_, upd_same, v, [], rfl, hv, rfl⟩).held fun p hp => List.mem_append_right _ hp⟩
theorem En.leaveX (e : En K B F0 ro ka ta sg H) : En K B F0 [] ka [] [] H :=
  let ⟨F, g, q⟩ := e
  ⟨F, g, (q.frame (ro' := []) (sg' := []) rfl fun i w h => by simp at h).held fun p hp => by cases hp⟩
theorem g_raise1 {fld : Str} {d : D} {out : Out → Cells → Prop} {E : XK} (hX : RxOk K B F0 out E) (ha : EvA K tr ro ka [.val d] k1) (T : OexC K C) (hno : findIn K (.ref C) fld = some none) (o : out (.exc C [(fld, d)]) k1) :
    Gp K B F0 ta (fun σ H => tMkO C (spI1 K C fld) [] tr σ H fun cls dd H' => E cls dd H') ro ka := fun sg H e => mk1_of ha T hno e fun dx H' e' => hX.1 C _ k1 dx H' o e'.leaveX
/-! ### try -/
/-- what is wished of an exception, whatever the slots hold -/
def XW (n : Nat) (Wx : WX) : XK := fun cls d H => ∀ σ : L2.St, σ.length = n → Wx cls d σ H
theorem pass_xw {X : Cx} {Wx : WX} (tk : Takes X Wx) : Passes (L2.CX X.prog X.w) X (XW X.N.length Wx) := fun _ σ _ _ e s' I c => tk e s' (XE.of_call I (fun _ _ _ h => h σ I.len) c)
theorem xw_as {c : Value} {i : Nat} {ts : Addr → Value → Option Addr → TS} {Wout : WX} {De : Ends} (hx : exmOne K (.ref C) c = some true)
    (h : ∀ a, Gp K B F0 ta (ts a (.ref C) (some dx) { nx := fun σ' H' => De.nx (σ'.set i none) H', rt := De.rt, bk := fun σ' H' => De.bk (σ'.set i none) H', ct := fun σ' H' => De.ct (σ'.set i none) H' }) ((List.replicate ro.length none).set i (some (.val (.adr a)))) ka)
    (e : En K B F0 ro ka ta sg H) : XW ro.length (wAs K c i ts Wout De) (.ref C) (some dx) H := fun σ hσ => ⟨true, hx, fun _ a _ => by
      refine h a _ _ ?_
      obtain ⟨F, g, e⟩ := e
      have e2 := e.frame (ro' := List.replicate ro.length none) (sg' := σ) (by rw [List.length_replicate, hσ]) fun i w q => by
        rw [List.getElem?_replicate] at q
        split at q <;> cases q
      exact En.setA ⟨F, g, e2⟩ i a, fun z => by cases z⟩
/-- e.f of the exception -/
theorem ev_xf {f : Str} {d : D} {j : Nat} (he : EvD K te ro ka (.val (.adr a)) k1) (hj : k1[j]? = some (dx, .xd fs)) (hd : fs.lookup f = some d) : EvD K (tXf a (.ref C) (some dx) C f te) ro ka (.val d) k1 := fun B F0 ta sg H Q e q => he B F0 ta sg H _ e fun v H1 e1 => by
  have hv := e1.tm_adr List.mem_cons_self
  subst hv
  obtain ⟨F, g, e1⟩ := e1
  obtain ⟨_, _, xs, hx, rx⟩ := e1.ce _ (List.mem_of_getElem? hj)
  obtain ⟨v, l, rv⟩ := rpf_lookup rx hd
  exact ⟨rfl, rfl, dx, xs, v, rfl, hx, l, q v H1 ⟨F, g, (e1.held (ta' := ta) fun p hp => List.mem_cons_of_mem _ hp).push rv⟩⟩

/-! ### conversions -/
def rTupU (K : PySem.W.Frag) : List V → Hp → VK → Prop := fun xs H Q => ∃ p ys, xs = [.ref p] ∧ ((SqL K H p ys ∧ ∀ l, H l = none → Q (.ref l) (upd H l (.tup ys))) ∨ (SqT K H p ys ∧ Q (.ref p) H))
def rIntU : List V → Hp → VK → Prop := fun xs H Q => (∃ i, xs = [.int i] ∧ Q (.int i) H) ∨ ∃ k, xs = [.bl k] ∧ Q (.int (if k then 1 else 0)) H
theorem call_tupU {X : Cx} : CallR X (.type "tuple") (rTupU X.K) := call_tuple_of
theorem call_intU {X : Cx} : CallR X (.type "int") rIntU := call_int1
theorem rpl_imm {F G : Hp} : ∀ {ds : List D} {xs : List V}, ds.all imm = true → RpL K F ds xs → RpL K G ds xs
  | [], _, _, h => h
  | d :: ds, xs, hi, h => by
    obtain ⟨x, ys, rfl, h1, h2⟩ := h
    rw [List.all_cons, Bool.and_eq_true] at hi
    exact ⟨x, ys, rfl, imm_any hi.1 h1, rpl_imm hi.2 h2⟩
/-- a sequence's items may be told as frozen -/
def SqF (b : Bool) (ds : List D) : Prop := b = false ∨ ds.all imm = true
theorem SqF.to {ds : List D} {xs : List V} (h : SqF b ds) (r : RpL K (if b then uni B F else F) ds xs) : RpL K F ds xs := by
  rcases h with h | h
  · subst h; exact r
  · exact rpl_imm h r
theorem rc_tupL {ds : List D} (l : Lk ka w false ds b) (hf : SqF b ds) : RcD K (rTupU K) ka [w] (.val (.tup ds)) := fun B F0 ro ta sg H us Q e hl hm q => by
  obtain ⟨u, rfl, hu⟩ := zip_one hl hm
  obtain ⟨F, g, e⟩ := e
  obtain ⟨a, xs, rfl, h1, h2⟩ := l.get e (e.tm _ hu)
  have r2 := hf.to h2
  refine ⟨a, xs, rfl, .inl ⟨.inl h1, fun p hp => q _ _ ?_⟩⟩
  obtain ⟨e4, g4⟩ := e.lay (o := .tup xs) hp rfl
  exact ⟨_, g.trans g4, e4.push ⟨p, _, rfl, .inl (.inl upd_same), RpL.mono g4.sub.exz e.nz _ _ r2⟩⟩
theorem rc_int {i : Int} : RcD K rIntU ka [.val (.int i)] (.val (.int i)) := fun B F0 ro ta sg H us Q e hl hm q => by
  obtain ⟨u, rfl, hu⟩ := zip_one hl hm
  obtain rfl := e.tm_int hu
  exact .inl ⟨i, rfl, q _ _ (e.push_imm fun _ => rfl)⟩
/-- a sign in a text -/
theorem rv_inS {c : Nat} {s : Str} : RvD K rInS ka (.val (.str ⟨#[c]⟩)) (.val (.str s)) (.val (.bl (decide (c ∈ s.cps.toList)))) := fun B F0 ro ta sg H u v Q e h1 h2 q =>
  ⟨c, s, e.tm_str h1, e.tm_str h2, q _ _ (e.push_imm fun _ => rfl)⟩
theorem rpl_ints {F : Hp} : ∀ (zs : List Int), RpL K F (zs.map D.int) (zs.map V.int)
  | [] => rfl
  | z :: zs => ⟨.int z, _, rfl, rfl, rpl_ints zs⟩
/-- a slot's cell is frozen -/
theorem Gp.frz {i j : Nat} {ds : List D} (hi : ro[i]? = some (some (.val (.adr a)))) (hj : ka[j]? = some (a, .lst ds)) (h : Gp K B F0 ta P (ro.set i (some (.val (.lst ds)))) (ka.eraseIdx j)) : Gp K B F0 ta P ro ka := fun sg H e => by
  have hp : (ka.eraseIdx j ++ [(a, Nd.lst ds)]).Perm ka := by
    have hlt := (List.getElem?_eq_some_iff.mp hj).1
    have h2 : ka[j] = (a, Nd.lst ds) := (List.getElem?_eq_some_iff.mp hj).2
    have e3 : ka = ka.take j ++ (a, Nd.lst ds) :: ka.drop (j + 1) := by
      rw [← h2, List.getElem_cons_drop, List.take_append_drop]
    rw [List.eraseIdx_eq_take_drop_succ]
    refine List.Perm.trans List.perm_append_comm ?_
    show (((a, Nd.lst ds)) :: (ka.take j ++ ka.drop (j + 1))).Perm ka
    refine List.Perm.trans List.perm_middle.symm ?_
    rw [← e3]
  obtain ⟨F, g, e2⟩ := (e.perm hp).freeze_l
  refine h sg H ⟨F, g, (e2.frame (ro' := ro.set i (some (.val (.lst ds)))) (sg' := sg) (by rw [List.length_set]; exact e2.ln) fun k w q => ?_).held fun p hp => List.mem_cons_of_mem _ hp⟩
  by_cases hik : i = k
  · subst hik
    have hl := (List.getElem?_eq_some_iff.mp hi).1
    rw [List.getElem?_set_self hl] at q
    cases q
    obtain ⟨v, h1, h2⟩ := e2.sl i _ hi
    obtain rfl : v = .ref a := h2
    exact ⟨.ref a, h1, e2.tm _ List.mem_cons_self⟩
  · rw [List.getElem?_set_ne hik] at q
    exact e2.sl k w q
end
end DL

/-! DL1: contracts by number of arguments, bundles for the printed derivations (own work). -/
namespace DL
open PySem L2 PySem.W
abbrev Oc := Out → Cells → Prop
def Ct1 (R : W → Cells → Oc → Prop) : Ct := fun ws ka out => ∃ a, ws = [a] ∧ R a ka out
def Ct2 (R : W → W → Cells → Oc → Prop) : Ct := fun ws ka out => ∃ a b, ws = [a, b] ∧ R a b ka out
def Ct3 (R : W → W → W → Cells → Oc → Prop) : Ct := fun ws ka out => ∃ a b c, ws = [a, b, c] ∧ R a b c ka out
def Ct4 (R : W → W → W → W → Cells → Oc → Prop) : Ct := fun ws ka out => ∃ a b c d, ws = [a, b, c, d] ∧ R a b c d ka out
theorem ct1_len {R} : ∀ ws ka out, Ct1 R ws ka out → ws.length = 1 := fun _ _ _ ⟨_, h, _⟩ => by rw [h]; rfl
theorem ct2_len {R} : ∀ ws ka out, Ct2 R ws ka out → ws.length = 2 := fun _ _ _ ⟨_, _, h, _⟩ => by rw [h]; rfl
theorem ct3_len {R} : ∀ ws ka out, Ct3 R ws ka out → ws.length = 3 := fun _ _ _ ⟨_, _, _, h, _⟩ => by rw [h]; rfl
theorem ct4_len {R} : ∀ ws ka out, Ct4 R ws ka out → ws.length = 4 := fun _ _ _ ⟨_, _, _, _, h, _⟩ => by rw [h]; rfl
/-- how a call ends: it comes back with d, the cells k; it raises -/
def Rt (d : D) (k : Cells) : Oc := fun o k' => o = .ret d ∧ k' = k
def Xt (C : Addr) (fs : List (Str × D)) (k : Cells) : Oc := fun o k' => o = .exc C fs ∧ k' = k
def Nt (n : Nd) (k : Cells) : Oc := fun o k' => ∃ a, o = .ret (.adr a) ∧ k' = k ++ [(a, n)]
section
variable {X : Cx} {k : Nat} {f C : Addr} {ps : List Str} {E : XK} {Ct' : Ct} {x m : Str} {p pos apos : Pos} {e o : Expr} {es : List Expr} {ta te to ti : TE} {t : TA}
/-- an own error with one field -/
structure Xn (P : Program) (w : World) (K : PySem.W.Frag) (mg : Str → Option Value) (base : Heap) (C : Addr) (fld : Str) : Prop where
  xc : Xc K C
  no : findIn K (.ref C) fld = some none
  ex : ∃ fI fd x, findIn K (.ref C) "__init__" = some (some (.ref fI)) ∧ typeIn K (.ref fI) = some (.type "function") ∧ FnOk P w K mg base (L2.CX P w) 1 fI fd ["self", x] (spI1 K C fld) ∧ Binds K fd ["self", x] []
namespace Xn
variable {P : Program} {w : World} {K : PySem.W.Frag} {mg : Str → Option Value} {base : Heap} {C : Addr} {fld : Str}
noncomputable def fI (Z : Xn P w K mg base C fld) : Addr := Classical.choose Z.ex
noncomputable def fd (Z : Xn P w K mg base C fld) : FuncData := Classical.choose (Classical.choose_spec Z.ex)
noncomputable def px (Z : Xn P w K mg base C fld) : Str := Classical.choose (Classical.choose_spec (Classical.choose_spec Z.ex))
theorem all (Z : Xn P w K mg base C fld) : findIn K (.ref C) "__init__" = some (some (.ref Z.fI)) ∧ typeIn K (.ref Z.fI) = some (.type "function") ∧ FnOk P w K mg base (L2.CX P w) 1 Z.fI Z.fd ["self", Z.px] (spI1 K C fld) ∧ Binds K Z.fd ["self", Z.px] [] :=
  Classical.choose_spec (Classical.choose_spec (Classical.choose_spec Z.ex))
end Xn
end
end DL
namespace DL
open PySem L2 PySem.W
/-- a constant of the module -/
theorem pe_gv {X : Cx} {x : Str} {pos : Pos} {v : V} (hg : Gl X x) (h : ∃ u, X.mg x = some u ∧ RelV v u) (hd : (x == ("__debug__" : Str)) = false := by decide) : PE X (.Name x pos) (tC v) := let ⟨_, hm, r⟩ := h; pe_glob hg hm r hd
/-- what BlkOk asks, as one thing to be decided -/
def blkB (N : List Str) (sc scope : Scope) (own : List (Str × Nat)) : Bool :=
  decide (scope.kind = .function ∧ (∀ p ∈ own, N[p.2]? = some p.1) ∧ ∀ y ∈ scope.names, scope.names.lookup y.1 = some y.2 ∧ (y.2 = .free → sc.names.lookup y.1 = some .cell ∨ sc.names.lookup y.1 = some .free) ∧ (y.2 = .local ∨ y.2 = .cell → y.1 ∈ own.map (·.1) ∨ y.1 ∉ N))
theorem blk_ok {N : List Str} {sc scope : Scope} {own : List (Str × Nat)} (N' : List Str) (sc' : Scope) (eN : N = N') (eS : sc = sc') (h : blkB N' sc' scope own = true) : BlkOk N sc scope own :=
  let ⟨fn, at_, each⟩ := of_decide_eq_true h
  eN ▸ eS ▸ { kind := fn, uniq := fun y m => (each y m).1, ix := at_, free := fun y m => (each y m).2.1, own := fun y m => (each y m).2.2 }
end DL

/-! DM: shorter words (own work). -/
namespace DL
open PySem L2 PySem.W
section
variable {K : PySem.W.Frag} {B F F0 : Hp} {ro : Ro} {ka k1 k2 k3 kr : Cells} {ta : List (V × W)} {sg : L2.St} {H H' : Hp} {te tf tg : TE} {tr : TA} {tt tu : TT} {w x y z : W} {n m : Nd} {C dx a : Addr} {fs : List (Str × D)} {b : Bool} {P : L2.St → Hp → Prop} {De : Ends} {t u : TS} {E : XK}
theorem ea1 (h : EvD K te ro ka x k1) : EvA K (tCons te tNil) ro ka [x] k1 := ea_cons h ea_nil
theorem ea2 (h : EvD K te ro ka x k1) (h2 : EvD K tf ro k1 y k2) : EvA K (tCons te (tCons tf tNil)) ro ka [x, y] k2 := ea_cons h (ea1 h2)
theorem ea3 (h : EvD K te ro ka x k1) (h2 : EvD K tf ro k1 y k2) (h3 : EvD K tg ro k2 z k3) : EvA K (tCons te (tCons tf (tCons tg tNil))) ro ka [x, y, z] k3 := ea_cons h (ea2 h2 h3)
theorem EvA.to {ws ws' : List W} (h : EvA K tr ro ka ws k1) (e : ws = ws') : EvA K tr ro ka ws' k1 := e ▸ h
theorem ev_isi {T : String} {t : Value} (h : EvD K te ro ka w k1) (l : Tw K k1 w t) (e : kitOne K t (.type T) = some b) : EvD K (tCB (rIsi K) (tCons te (tCons (tC (.ty T)) tNil))) ro ka (.val (.bl b)) k1 := ev_cb (ea2 h ev_ty) (rc_isi l e)
theorem ev_len {t b : Bool} {ds : List D} (h : EvD K te ro ka w k1) (l : Lk k1 w t ds b) : EvD K (tCB (rLenU K) (tCons te tNil)) ro ka (.val (.int ds.length)) k1 := ev_cb (ea1 h) (rc_len l)
theorem ev_lenS {s : Str} (h : EvD K te ro ka (.val (.str s)) k1) (hs : s.length ≤ 100000) : EvD K (tCB (rLenU K) (tCons te tNil)) ro ka (.val (.int s.length)) k1 := ev_cb (ea1 h) (rc_lenS hs)
theorem ev_eq {d e : D} (h : EvD K te ro ka x k1) (h2 : EvD K tf ro k1 y k2) (l1 : Pk k2 x d) (l2 : Pk k2 y e) (p1 : pl 61 d = true) (p2 : pl 61 e = true) : EvD K (tOp (rEqP K false) te tf) ro ka (.val (.bl (eqD d e))) k2 := ev_op h h2 (rv_eqP l1 l2 p1 p2)
theorem ev_ne {d e : D} (h : EvD K te ro ka x k1) (h2 : EvD K tf ro k1 y k2) (l1 : Pk k2 x d) (l2 : Pk k2 y e) (p1 : pl 61 d = true) (p2 : pl 61 e = true) : EvD K (tOp (rEqP K true) te tf) ro ka (.val (.bl (!eqD d e))) k2 := ev_op h h2 (rv_neP l1 l2 p1 p2)
theorem ev_eqI {i j : Int} (h : EvD K te ro ka (.val (.int i)) k1) (h2 : EvD K tf ro k1 (.val (.int j)) k2) : EvD K (tOp (rEqP K false) te tf) ro ka (.val (.bl (i == j))) k2 := ev_eq h h2 .v .v rfl rfl
theorem ev_neI {i j : Int} (h : EvD K te ro ka (.val (.int i)) k1) (h2 : EvD K tf ro k1 (.val (.int j)) k2) : EvD K (tOp (rEqP K true) te tf) ro ka (.val (.bl (!(i == j)))) k2 := ev_ne h h2 .v .v rfl rfl
theorem ev_eqS {i j : Str} (h : EvD K te ro ka (.val (.str i)) k1) (h2 : EvD K tf ro k1 (.val (.str j)) k2) : EvD K (tOp (rEqP K false) te tf) ro ka (.val (.bl (i == j))) k2 := ev_eq h h2 .v .v rfl rfl
theorem ev_neS {i j : Str} (h : EvD K te ro ka (.val (.str i)) k1) (h2 : EvD K tf ro k1 (.val (.str j)) k2) : EvD K (tOp (rEqP K true) te tf) ro ka (.val (.bl (!(i == j)))) k2 := ev_ne h h2 .v .v rfl rfl
theorem ev_addI {i j : Int} (h : EvD K te ro ka (.val (.int i)) k1) (h2 : EvD K tf ro k1 (.val (.int j)) k2) : EvD K (tOp (rAddU K) te tf) ro ka (.val (.int (i + j))) k2 := ev_op h h2 rv_addI
theorem ev_subI {i j : Int} (h : EvD K te ro ka (.val (.int i)) k1) (h2 : EvD K tf ro k1 (.val (.int j)) k2) : EvD K (tOp rSubI te tf) ro ka (.val (.int (i - j))) k2 := ev_op h h2 rv_sub
theorem ev_mulI {i j : Int} (h : EvD K te ro ka (.val (.int i)) k1) (h2 : EvD K tf ro k1 (.val (.int j)) k2) (c : IntMulOk i j) : EvD K (tOp rMulU te tf) ro ka (.val (.int (i * j))) k2 := ev_op h h2 (rvd_l (rv_I c fun _ => rfl))
theorem ev_mulL {i j : Int} (h : EvD K te ro ka (.val (.int i)) k1) (h2 : EvD K tf ro k1 (.val (.int j)) k2) (c : Builtin.Int.intBits i ≤ 64 := by decide) : EvD K (tOp rMulU te tf) ro ka (.val (.int (i * j))) k2 := ev_mulI h h2 (.of_left c)
theorem ev_mulR {i j : Int} (h : EvD K te ro ka (.val (.int i)) k1) (h2 : EvD K tf ro k1 (.val (.int j)) k2) (c : Builtin.Int.intBits j ≤ 64 := by decide) : EvD K (tOp rMulU te tf) ro ka (.val (.int (i * j))) k2 := ev_mulI h h2 (.of_right c)
theorem ev_modI {i j : Int} (h : EvD K te ro ka (.val (.int i)) k1) (h2 : EvD K tf ro k1 (.val (.int j)) k2) (c : 0 < j) : EvD K (tOp rModI te tf) ro ka (.val (.int (i % j))) k2 := ev_op h h2 (rv_mod c)
theorem ev_divI {i j : Int} (h : EvD K te ro ka (.val (.int i)) k1) (h2 : EvD K tf ro k1 (.val (.int j)) k2) (c : CDiv i j) : EvD K (tOp rDivI te tf) ro ka (.val (.int (i / j))) k2 := ev_op h h2 (rv_div c)
theorem ev_powI {i j : Int} (h : EvD K te ro ka (.val (.int i)) k1) (h2 : EvD K tf ro k1 (.val (.int j)) k2) (c : CPow i j) : EvD K (tOp rPowI te tf) ro ka (.val (.int (i ^ j.toNat))) k2 := ev_op h h2 (rv_pow c)
theorem ev_lt {i j : Int} (h : EvD K te ro ka (.val (.int i)) k1) (h2 : EvD K tf ro k1 (.val (.int j)) k2) : EvD K (tOp rLtI te tf) ro ka (.val (.bl (decide (i < j)))) k2 := ev_op h h2 rv_lt
theorem ev_gt {i j : Int} (h : EvD K te ro ka (.val (.int i)) k1) (h2 : EvD K tf ro k1 (.val (.int j)) k2) : EvD K (tOp rGtI te tf) ro ka (.val (.bl (decide (j < i)))) k2 := ev_op h h2 rv_gt
theorem ev_ge {i j : Int} (h : EvD K te ro ka (.val (.int i)) k1) (h2 : EvD K tf ro k1 (.val (.int j)) k2) : EvD K (tOp rGeI te tf) ro ka (.val (.bl (decide (j ≤ i)))) k2 := ev_op h h2 rv_ge
theorem ev_int1 {i : Int} (h : EvD K te ro ka (.val (.int i)) k1) : EvD K (tCB rIntU (tCons te tNil)) ro ka (.val (.int i)) k1 := ev_cb (ea1 h) rc_int
theorem ev_addS {i j : Str} (h : EvD K te ro ka (.val (.str i)) k1) (h2 : EvD K tf ro k1 (.val (.str j)) k2) (hz : i.length + j.length ≤ 100000) : EvD K (tOp (rAddU K) te tf) ro ka (.val (.str (i ++ j))) k2 := ev_op h h2 (rv_addS hz)
theorem ev_ix {t b : Bool} {ds : List D} {i : Int} {d : D} (h : EvD K te ro ka w k1) (h2 : EvD K tf ro k1 (.val (.int i)) k2) (l : Lk k2 w t ds b) (hd : atI ds i = some d) : EvD K (tOp (rIx K) te tf) ro ka (part b d) k2 := ev_op h h2 (rv_ix l hd)
theorem ev_ixV {t : Bool} {ds : List D} {i : Int} {d : D} (h : EvD K te ro ka w k1) (h2 : EvD K tf ro k1 (.val (.int i)) k2) (l : Lk k2 w t ds false) (hd : atI ds i = some d) : EvD K (tOp (rIx K) te tf) ro ka (.val d) k2 := ev_ix h h2 l hd
theorem ev_ixS {s : Str} {i : Int} {c : Nat} (h : EvD K te ro ka (.val (.str s)) k1) (h2 : EvD K tf ro k1 (.val (.int i)) k2) (hs : s.length ≤ 100000) (hc : atI s.cps.toList i = some c) : EvD K (tOp (rIx K) te tf) ro ka (.val (.str ⟨#[c]⟩)) k2 := ev_op h h2 (rv_ixS hs hc)
theorem ev_inS {c : Nat} {s : Str} (h : EvD K te ro ka (.val (.str ⟨#[c]⟩)) k1) (h2 : EvD K tf ro k1 (.val (.str s)) k2) : EvD K (tOp (rInU K) te tf) ro ka (.val (.bl (decide (c ∈ s.cps.toList)))) k2 := ev_op h h2 (rvd_l rv_inS)
theorem rv_niS {c : Nat} {s : Str} : RvD K rNotInS ka (.val (.str ⟨#[c]⟩)) (.val (.str s)) (.val (.bl (!decide (c ∈ s.cps.toList)))) := fun B F0 ro ta sg H u v Q e h1 h2 q =>
  ⟨c, s, e.tm_str h1, e.tm_str h2, q _ _ (e.push_imm fun _ => rfl)⟩
theorem ev_niS {c : Nat} {s : Str} (h : EvD K te ro ka (.val (.str ⟨#[c]⟩)) k1) (h2 : EvD K tf ro k1 (.val (.str s)) k2) : EvD K (tOp (rNiU K) te tf) ro ka (.val (.bl (!decide (c ∈ s.cps.toList)))) k2 := ev_op h h2 (rvd_l rv_niS)
theorem rv_catT {ds es : List D} (hz : ds.length + es.length ≤ 100000) : RvD K (rAddU K) ka (.val (.tup ds)) (.val (.tup es)) (.val (.tup (ds ++ es))) := rvd_r (rvd_r (rvd_r fun B F0 ro ta sg H u v Q e h1 h2 q => by
  obtain ⟨F, g, e⟩ := e
  obtain ⟨a, xs, rfl, s1, r1⟩ := Lk.vt.get e (e.tm _ h1)
  obtain ⟨b, ys, rfl, s2, r2⟩ := Lk.vt.get e (e.tm _ h2)
  refine ⟨a, b, xs, ys, rfl, rfl, s1, s2, by rw [rpl_len r1, rpl_len r2]; exact Nat.le_trans hz (by decide), fun h0 => ?_, fun _ h0 => ?_, fun _ _ p hp => ?_⟩
  · have hd : ds = [] := List.eq_nil_of_length_eq_zero (by rw [← rpl_len r1, h0]; rfl)
    subst hd
    exact q _ _ ⟨F, g, e.push (e.tm _ h2)⟩
  · have hd : es = [] := List.eq_nil_of_length_eq_zero (by rw [← rpl_len r2, h0]; rfl)
    subst hd
    rw [List.append_nil] at q
    exact q _ _ ⟨F, g, e.push (e.tm _ h1)⟩
  · obtain ⟨e4, g4⟩ := e.lay (o := .tup (xs ++ ys)) hp rfl
    exact q _ _ ⟨_, g.trans g4, e4.push ⟨p, _, rfl, .inl (.inl upd_same), RpL.mono g4.sub.exz e.nz _ _ (rpl_app r1 r2)⟩⟩))
theorem ev_catT {ds es : List D} (h : EvD K te ro ka (.val (.tup ds)) k1) (h2 : EvD K tf ro k1 (.val (.tup es)) k2) (hz : ds.length + es.length ≤ 100000) : EvD K (tOp (rAddU K) te tf) ro ka (.val (.tup (ds ++ es))) k2 := ev_op h h2 (rv_catT hz)

/-! ### calls -/
/-- a contract that works on no cells -/
theorem ev_callP {Cc : Ct} {ws : List W} {d : D} (ha : EvA K tr ro ka ws k1) (hC : Cc ws [] (Rt d [])) : EvD K (tCall (spC K Cc) [] E tr) ro ka (.val d) k1 := ev_callF (k1 := []) (k2 := []) k1 ha hC fun _ _ h => h
/-- .. on all -/
theorem ev_callA {Cc : Ct} {ws : List W} {d : D} (ha : EvA K tr ro ka ws k1) (hC : Cc ws k1 (Rt d k2)) : EvD K (tCall (spC K Cc) [] E tr) ro ka (.val d) k2 := ev_call ha hC fun _ _ h => h
/-- .. on the first cell -/
theorem ev_call1 {Cc : Ct} {ws : List W} {d : D} (ha : EvA K tr ro ka ws ((a, n) :: kr)) (hC : Cc ws [(a, n)] (Rt d [(a, m)])) : EvD K (tCall (spC K Cc) [] E tr) ro ka (.val d) ((a, m) :: kr) := ev_callF (k1 := [(a, n)]) (k2 := [(a, m)]) kr ha hC fun _ _ h => h
theorem evn_callP {Cc : Ct} {ws : List W} (ha : EvA K tr ro ka ws k1) (hC : Cc ws [] (Nt m [])) : EvN K (tCall (spC K Cc) [] E tr) ro ka m k1 := evn_call (k1 := []) (k2 := []) k1 ha hC fun _ _ h => h
/-- the call's end is told by a word: any data, any cells -/
theorem sp_rel {Cc : Ct} {ws : List W} {out : Oc} {vs : List V} {Q : VK} (e : En K B F0 ro (ka ++ kr) (vs.zip ws ++ ta) sg H) (hl : vs.length = ws.length) (hC : Cc ws ka out) (ho : ∀ o k, out o k → ∃ d, o = .ret d)
    (q : ∀ d k2 v H', out (.ret d) k2 → En K B F0 ro (k2 ++ kr) ((v, .val d) :: ta) sg H' → Q v H') : spC K Cc vs H Q E := by
  obtain ⟨F, g, e⟩ := e
  refine ⟨off H ka, F, ws, ka, out, hC, hl, ⟨F, Gr.refl _ _, e.into (ro' := []) (sg' := []) (ta' := vs.zip ws) rfl (fun i w h => by simp at h) fun p hp => List.mem_append_left _ hp⟩, fun d' k v H' o ⟨F', g', e'⟩ => ?_, fun C fs k dx H' o _ => ?_, fun C k H' o _ => ?_⟩
  · obtain ⟨g2, e2⟩ := e.back g' e' (tb := (v, .val d') :: ta) fun p hp => by
      rcases List.mem_cons.mp hp with rfl | hp
      · exact .inr ⟨d', rfl, List.mem_cons_self⟩
      · exact .inl (List.mem_append_right _ hp)
    exact q d' k v H' o ⟨F', g.trans g2, e2⟩
  · obtain ⟨_, z⟩ := ho _ _ o
    cases z
  · obtain ⟨_, z⟩ := ho _ _ o
    cases z
theorem g_call {Cc : Ct} {ws : List W} {out : Oc} {i : Nat} (kr : Cells) (ha : EvA K tr ro ka ws (k1 ++ kr)) (hC : Cc ws k1 out) (ho : ∀ o k, out o k → ∃ d, o = .ret d) (k : ∀ d k2, out (.ret d) k2 → Gp K B F0 ta De.nx (ro.set i (some (.val d))) (k2 ++ kr)) :
    Gp K B F0 ta (tAsg (tCall (spC K Cc) [] E tr) (gName i) De) ro ka := fun sg H e => ha B F0 ta sg H _ e fun vs H1 hl e1 => by
  rw [List.append_nil]
  exact sp_rel e1 hl hC ho fun d k2 v H' o e2 => k d k2 o _ _ (e2.set i)
theorem q_call {Cc : Ct} {ws : List W} {out : Oc} {i : Nat} (kr : Cells) (ha : EvA K tr ro ka ws (k1 ++ kr)) (hC : Cc ws k1 out) (ho : ∀ o k, out o k → ∃ d, o = .ret d) (k : ∀ d k2, out (.ret d) k2 → Gp K B F0 ta (u De) (ro.set i (some (.val d))) (k2 ++ kr)) :
    Gp K B F0 ta (tSeq (tAsg (tCall (spC K Cc) [] E tr) (gName i)) u De) ro ka := g_call (De := { De with nx := u De }) kr ha hC ho k
/-! ### returns -/
/-- a new cell is handed back as data -/
theorem g_retL {out : Oc} {ds : List D} (hr : RtOk K B F0 out De.rt) (h : EvN K te ro ka (.lst ds) k1) (o : out (.ret (.lst ds)) k1) : Gp K B F0 ta (tRet te De) ro ka := g_ret hr h.lst o
/-- .. as a cell -/
theorem g_retC {out : Oc} (hr : RtOk K B F0 out De.rt) (h : EvN K te ro ka n k1) (o : ∀ a, out (.ret (.adr a)) (k1 ++ [(a, n)])) : Gp K B F0 ta (tRet te De) ro ka := fun sg H e => h B F0 ta sg H _ e fun a H1 e1 =>
  hr (.adr a) _ (.ref a) H1 (o a) ((e1.push_imm (v := .ref a) (w := .val (.adr a)) fun _ => rfl).leave)
/-- .. of which a word tells -/
theorem g_retR {out : Oc} {R : Nd → Cells → Prop} (hr : RtOk K B F0 out De.rt) (h : EvNR K te ro ka R) (o : ∀ n k, R n k → ∃ ds, n = .lst ds ∧ out (.ret (.lst ds)) k) : Gp K B F0 ta (tRet te De) ro ka := fun sg H e => h B F0 ta sg H _ e fun n k a H1 r e1 => by
  obtain ⟨ds, rfl, o⟩ := o n k r
  exact hr (.lst ds) k (.ref a) H1 o e1.freeze_l.leave
theorem g_asgNR {R : Nd → Cells → Prop} {i : Nat} (h : EvNR K te ro ka R) (k : ∀ n k1 a, R n k1 → Gp K B F0 ta De.nx (ro.set i (some (.val (.adr a)))) (k1 ++ [(a, n)])) : Gp K B F0 ta (tAsg te (gName i) De) ro ka := fun sg H e => h B F0 ta sg H _ e fun n k1 a H1 r e1 => k n k1 a r _ _ (e1.setA i a)
theorem q_asgNR {R : Nd → Cells → Prop} {i : Nat} (h : EvNR K te ro ka R) (k : ∀ n k1 a, R n k1 → Gp K B F0 ta (u De) (ro.set i (some (.val (.adr a)))) (k1 ++ [(a, n)])) : Gp K B F0 ta (tSeq (tAsg te (gName i)) u De) ro ka := g_asgNR (De := { De with nx := u De }) h k
theorem Gp.perm (h : Gp K B F0 ta P ro k1) (s : k1.Perm ka) : Gp K B F0 ta P ro ka := fun sg H e => h sg H (e.perm s)
end
end DL

/-! DN: comprehensions that map and choose; names, numbers (own work). -/
namespace DL
open PySem L2 PySem.W
section
variable {K : PySem.W.Frag} {ro : Ro} {ka k1 : Cells} {te : TE} {tt : TT} {wi : TI} {C : Cells → Prop} {j : Nat} {vs : List Nat} {α : Type}
theorem et_yes : EvT K tYes ro ka true ka := fun B F0 ta sg H Q e q => q H e
theorem take_succ_some {xs : List α} {i : Nat} {x : α} (h : xs[i]? = some x) : xs.take (i + 1) = xs.take i ++ [x] := by
  rw [List.take_succ, h]
  rfl
theorem evn_filt {xs : List α} {g : α → W} {f : α → D} {p : α → Bool} (h : EvI K wi ro ka (xs.map g) C k1) (hj : j ∈ vs) (hn : xs.length ≤ 1000000) (hC : C k1 ∧ ∀ x, C (k1 ++ [x]))
    (ht : ∀ x ∈ xs, EvT K tt ((wipeR ro vs).set j (some (g x))) k1 (p x) k1) (hs : ∀ x ∈ xs, p x = true → EvD K te ((wipeR ro vs).set j (some (g x))) k1 (.val (f x)) k1) : EvN K (tLc wi (gName j) tt te vs) ro ka (.lst ((xs.filter p).map f)) k1 := by
  refine evn_lc h hj (by rw [List.length_map]; exact hn) (fun i acc k => acc = ((xs.take i).filter p).map f ∧ k = k1) ⟨rfl, rfl⟩ (fun i acc k ⟨_, e⟩ => by subst e; exact hC) (fun i w acc k hw ⟨e1, e2⟩ => ?_) (fun acc k ⟨e1, e2⟩ => ⟨?_, e2⟩)
  · subst e1 e2
    rw [List.getElem?_map] at hw
    cases hx : xs[i]? with
    | none => rw [hx] at hw; cases hw
    | some x =>
      rw [hx] at hw
      cases hw
      have hm : x ∈ xs := List.mem_of_getElem? hx
      cases hp : p x with
      | false =>
        refine .inl ⟨k, hp ▸ ht x hm, ?_, rfl⟩
        rw [take_succ_some hx, List.filter_append]
        simp [hp]
      | true =>
        refine .inr ⟨k, k, f x, hp ▸ ht x hm, hs x hm hp, ?_, rfl⟩
        rw [take_succ_some hx, List.filter_append]
        simp [hp]
  · rw [e1, List.length_map, List.take_length]
theorem evn_map {xs : List α} {g : α → W} {f : α → D} (h : EvI K wi ro ka (xs.map g) C k1) (hj : j ∈ vs) (hn : xs.length ≤ 1000000) (hC : C k1 ∧ ∀ x, C (k1 ++ [x]))
    (hs : ∀ x ∈ xs, EvD K te ((wipeR ro vs).set j (some (g x))) k1 (.val (f x)) k1) : EvN K (tLc wi (gName j) tYes te vs) ro ka (.lst (xs.map f)) k1 := by
  have := evn_filt (tt := tYes) (p := fun _ => true) h hj hn hC (fun _ _ => et_yes) (fun x hx _ => hs x hx)
  have e : xs.filter (fun _ => true) = xs := List.filter_eq_self.mpr fun _ _ => rfl
  rwa [e] at this
end
/-! ### texts -/
theorem str_len (s : Str) : s.length = s.cps.toList.length := by
  show s.cps.size = _
  simp
theorem str_ext {s t : Str} (h : s.cps.toList = t.cps.toList) : s = t := by
  cases s with
  | mk a =>
    cases t with
    | mk b =>
      have : a = b := by
        have h2 : a.toList = b.toList := h
        exact Array.toList_inj.mp h2
      rw [this]
def letL : List Nat := ("abcdefghijklmnopqrstuvwxyz" : Str).cps.toList
def digL : List Nat := ("0123456789" : Str).cps.toList
/-- is a text a name: its signs -/
def nmL : List Nat → Bool
  | [] => false
  | c :: r => decide ((c :: r).length ≤ 8) && (decide (c ∈ letL) && (c :: r).all fun x => decide (x ∈ letL) || decide (x ∈ digL))
def isNm (s : Str) : Bool := nmL s.cps.toList
theorem isNm_len {s : Str} (h : isNm s = true) : s.length ≤ 8 := by
  unfold isNm at h
  rw [str_len]
  cases hc : s.cps.toList with
  | nil => simp
  | cons c r =>
    rw [hc] at h
    unfold nmL at h
    rw [Bool.and_eq_true] at h
    exact of_decide_eq_true h.1
theorem at0 {β : Type} {c : β} {r : List β} : atI (c :: r) 0 = some c := atI_nat (j := 0) rfl
theorem atZ {β : Type} {xs : List β} {i : Int} {x : β} (h0 : 0 ≤ i) (h : xs[i.toNat]? = some x) : atI xs i = some x := by
  have := atI_nat h
  rwa [Int.toNat_of_nonneg h0] at this
/-! ### cuts -/
theorem six_nat {n : Nat} {i : Int} (h0 : 0 ≤ i) (h1 : i ≤ n) (d : Nat) : HT.sIx n d (some i) = i.toNat := by
  unfold HT.sIx
  simp only
  first
    | omega
    | (split <;> omega)
    | (repeat' split) <;> omega
theorem six_none {n d : Nat} : HT.sIx n d none = d := rfl
theorem cut_from {β : Type} {xs : List β} {i : Int} (h0 : 0 ≤ i) (h1 : i ≤ xs.length) : cutD xs (some i) none = xs.drop i.toNat := by
  unfold cutD
  rw [six_nat h0 h1, six_none]
  exact List.take_of_length_le (by rw [List.length_drop]; exact Nat.le_refl _)
theorem cut_to {β : Type} {xs : List β} {i : Int} (h0 : 0 ≤ i) (h1 : i ≤ xs.length) : cutD xs none (some i) = xs.take i.toNat := by
  unfold cutD
  rw [six_nat h0 h1, six_none, List.drop_zero, Nat.sub_zero]
theorem cut_len {β : Type} (xs : List β) (lo hi : Option Int) : (cutD xs lo hi).length ≤ xs.length := by
  unfold cutD
  rw [List.length_take, List.length_drop]
  omega
/-! ### texts in lists -/
theorem eqD_str {a b : Str} : eqD (.str a) (.str b) = (a == b) := rfl
def stD (ss : List Str) : List D := ss.map .str
theorem stD_len (ss : List Str) : (stD ss).length = ss.length := List.length_map ..
theorem pl_stD (ss : List Str) (n : Nat) : (stD ss).all (pl n) = true := List.all_eq_true.mpr fun d hd => by
  obtain ⟨s, _, rfl⟩ := List.mem_map.mp hd
  cases n <;> rfl
theorem eqL_stD : ∀ xs ys : List Str, eqL (stD xs) (stD ys) = decide (xs = ys)
  | [], [] => rfl
  | [], _ :: _ => rfl
  | _ :: _, [] => rfl
  | x :: xs, y :: ys => by
    have ih := eqL_stD xs ys
    show (eqD (.str x) (.str y) && eqL (stD xs) (stD ys)) = _
    rw [ih, eqD_str]
    by_cases h1 : x = y
    · subst h1
      by_cases h2 : xs = ys
      · subst h2; simp
      · simp [h2]
    · simp [h1]
theorem lk1 {β : Type} {f : Str} {v : β} : List.lookup f [(f, v)] = some v := by simp [List.lookup]
theorem part_of {b : Bool} {ds : List D} (h : SqF b ds) {d : D} (hd : d ∈ ds) : part b d = .val d := by
  rcases h with h | h
  · subst h; rfl
  · have := List.all_eq_true.mp h d hd
    unfold part
    rw [this]
    simp
section
variable {K : PySem.W.Frag} {ka kr : Cells} {w : W} {t b : Bool} {ds : List D}
theorem Lk.stay (l : Lk ka w t ds b) : Stay w ds ka := by
  cases l with
  | vl => trivial
  | vt => trivial
  | wl => trivial
  | wt => trivial
  | ce j h => exact List.mem_of_getElem? h
theorem Lk.app (l : Lk ka w t ds b) : Lk (ka ++ kr) w t ds b := l.mono _ (by
  have := l.stay
  unfold Stay at this ⊢
  split
  · rename_i a
    exact List.mem_append_left _ this
  · trivial)
end
theorem set_last {β : Type} (k : List β) (x y : β) : (k ++ [x]).set k.length y = k ++ [y] := by
  rw [List.set_append_right _ _ (Nat.le_refl _)]
  simp
theorem get_last {β : Type} (k : List β) (x : β) : (k ++ [x])[k.length]? = some x := by simp
end DL
namespace DL
open PySem L2 PySem.W
section
variable {K : PySem.W.Frag} {B F0 : Hp} {ro : Ro} {ka k1 k2 : Cells} {ta : List (V × W)} {tt : TT} {De : Ends} {t u : TS}
/-- an if whose ends meet again under a word -/
theorem q_whenI {b : Bool} (Inv : Ro → Cells → Prop) (h : EvT K tt ro ka b k1) (h1 : b = true → ∀ nx, (∀ ro2 ka2, Inv ro2 ka2 → Gp K B F0 ta nx ro2 ka2) → Gp K B F0 ta (t { De with nx := nx }) ro k1) (h2 : b = false → Inv ro k1) (k : ∀ ro2 ka2, Inv ro2 ka2 → Gp K B F0 ta (u De) ro2 ka2) : Gp K B F0 ta (tSeq (tIfS tt t tNext) u De) ro ka :=
  q_when h (fun hb => h1 hb _ k) fun hb => k _ _ (h2 hb)
end
/-! ### the pool of the laws -/
structure Pl where
  a : Int
  b : Int
  c : Int
def Pl.ds (p : Pl) : List D := [.int p.a, .int p.b, .int p.c]
structure Pl.Ok (p : Pl) (n : Int) : Prop where
  a0 : 0 ≤ p.a
  b0 : 0 ≤ p.b
  b1 : p.b < 1000000007
  c0 : 0 ≤ p.c
  c1 : p.c ≤ n
theorem Pl.Ok.up {p : Pl} {m n : Int} (h : p.Ok m) (l : m ≤ n) : p.Ok n := ⟨h.a0, h.b0, h.b1, h.c0, Int.le_trans h.c1 l⟩
def fldZ (z : Int) : Int := if z < 0 then 0 - 2 * z - 1 else 2 * z
def plOf (z : Int) : Pl := if fldZ z ≥ 10 ^ 18 then ⟨fldZ z, fldZ z % 1000000007, 0⟩ else ⟨0, fldZ z % 1000000007, 0⟩
theorem fldZ_nn (z : Int) : 0 ≤ fldZ z := by
  unfold fldZ
  split <;> omega
theorem plOf_ok (z : Int) : (plOf z).Ok 0 := by
  have h := fldZ_nn z
  have h0 : 0 ≤ fldZ z % 1000000007 := Int.emod_nonneg _ (by decide)
  have h1 : fldZ z % 1000000007 < 1000000007 := Int.emod_lt_of_pos _ (by decide)
  unfold plOf
  split
  · exact ⟨h, h0, h1, Int.le_refl _, Int.le_refl _⟩
  · exact ⟨Int.le_refl _, h0, h1, Int.le_refl _, Int.le_refl _⟩
/-- one draw below m -/
def tk (p : Pl) (m : Int) : Int × Pl :=
  if 0 < p.a then (p.a % m, ⟨p.a / m, p.b, p.c⟩)
  else (((p.b + 7919 * (p.c + 1) + 104729) ^ (5 : Int).toNat % 2147483647 + (p.c + 1)) * 40692 % 2147483629 % m, ⟨p.a, p.b, p.c + 1⟩)
theorem tk_lt (p : Pl) {m : Int} (h : 0 < m) : 0 ≤ (tk p m).1 ∧ (tk p m).1 < m := by
  unfold tk
  split
  · exact ⟨Int.emod_nonneg _ (by omega), Int.emod_lt_of_pos _ h⟩
  · exact ⟨Int.emod_nonneg _ (by omega), Int.emod_lt_of_pos _ h⟩
theorem tk_ok {p : Pl} {n m : Int} (h : p.Ok n) (hm : 0 < m) : (tk p m).2.Ok (n + 1) := by
  obtain ⟨h1, h2, h3, h4, h5⟩ := h
  unfold tk
  split
  · exact ⟨Int.ediv_nonneg h1 (by omega), h2, h3, h4, by show p.c ≤ n + 1; omega⟩
  · exact ⟨h1, h2, h3, by show 0 ≤ p.c + 1; omega, by show p.c + 1 ≤ n + 1; omega⟩
end DL

/-! DP: texts by their signs (own work). -/
namespace DL
open PySem L2 PySem.W
/-- the text of these signs -/
def tx (l : List Nat) : Str := ⟨l.toArray⟩
theorem tx_cps (l : List Nat) : (tx l).cps.toList = l := rfl
theorem tx_len (l : List Nat) : (tx l).length = l.length := by rw [str_len, tx_cps]
theorem tx_app (l m : List Nat) : tx l ++ tx m = tx (l ++ m) := by
  refine str_ext ?_
  show ((tx l).cps ++ (tx m).cps).toList = l ++ m
  rw [Array.toList_append]
  rfl
theorem tx_cut (l : List Nat) (lo hi : Option Int) : cutS (tx l) lo hi = tx (cutD l lo hi) := by
  unfold cutS cutD
  rw [tx_cps, tx_len]
  rfl
theorem letters_tx : ("abcdefghijklmnopqrstuvwxyz" : Str) = tx letL := str_ext rfl
theorem digits_tx : ("0123456789" : Str) = tx digL := str_ext rfl
theorem let_len : letL.length = 26 := by decide
theorem sig_len : (letL ++ digL).length = 36 := by decide
theorem isNm_tx (l : List Nat) : isNm (tx l) = nmL l := by unfold isNm; rw [tx_cps]
theorem nmL_of {c : Nat} {r : List Nat} (h : c ∈ letL) (h2 : ∀ x ∈ c :: r, x ∈ letL ++ digL) (hl : (c :: r).length ≤ 8) : nmL (c :: r) = true := by
  show (decide ((c :: r).length ≤ 8) && (decide (c ∈ letL) && (c :: r).all fun x => decide (x ∈ letL) || decide (x ∈ digL))) = true
  rw [decide_eq_true hl, decide_eq_true h, Bool.true_and, Bool.true_and, List.all_eq_true]
  intro x hx
  rw [Bool.or_eq_true, decide_eq_true_eq, decide_eq_true_eq]
  exact List.mem_append.mp (h2 x hx)
/-- a name, its signs -/
theorem nm_of {l : List Nat} (h0 : ∃ c, l.head? = some c ∧ c ∈ letL) (h2 : ∀ x ∈ l, x ∈ letL ++ digL) (hl : l.length ≤ 8) : isNm (tx l) = true := by
  rw [isNm_tx]
  obtain ⟨c, hc, hm⟩ := h0
  cases l with
  | nil => cases hc
  | cons d r =>
    cases hc
    exact nmL_of hm h2 hl
/-- a drawn sign -/
theorem sgn_at {l : List Nat} {i : Int} (h0 : 0 ≤ i) (h1 : i < l.length) : ∃ c, atI l i = some c ∧ c ∈ l := by
  have hlt : i.toNat < l.length := by omega
  exact ⟨l[i.toNat], atZ h0 (List.getElem?_eq_getElem hlt), List.getElem_mem hlt⟩
section
variable {K : PySem.W.Frag} {ro : Ro} {ka k1 k2 k3 : Cells} {te tf : TE} {tl th : TO}
theorem ev_ixT {l : List Nat} {i : Int} {c : Nat} (h : EvD K te ro ka (.val (.str (tx l))) k1) (h2 : EvD K tf ro k1 (.val (.int i)) k2) (hs : l.length ≤ 1000) (hc : atI l i = some c) : EvD K (tOp (rIx K) te tf) ro ka (.val (.str (tx [c]))) k2 := ev_ixS h h2 (by rw [tx_len]; omega) (by rw [tx_cps]; exact hc)
theorem ev_addT {l m : List Nat} (h : EvD K te ro ka (.val (.str (tx l))) k1) (h2 : EvD K tf ro k1 (.val (.str (tx m))) k2) (hz : l.length + m.length ≤ 1000) : EvD K (tOp (rAddU K) te tf) ro ka (.val (.str (tx (l ++ m)))) k2 := (ev_addS h h2 (by rw [tx_len, tx_len]; omega)).to (by rw [tx_app])
theorem ev_slX {lo hi : Option Int} {l : List Nat} (ha : EvD K te ro ka (.val (.str (tx l))) k1) (h1 : EvO K tl ro k1 lo k2) (h2 : EvO K th ro k2 hi k3) (hs : l.length ≤ 1000) : EvD K (tSl (rSlU K) te tl th) ro ka (.val (.str (tx (cutD l lo hi)))) k3 := (ev_slS ha h1 h2 (by rw [tx_len]; omega)).to (by rw [tx_cut])
theorem ev_lenX {l : List Nat} (h : EvD K te ro ka (.val (.str (tx l))) k1) (hs : l.length ≤ 1000) : EvD K (tCB (rLenU K) (tCons te tNil)) ro ka (.val (.int l.length)) k1 := (ev_lenS h (by rw [tx_len]; omega)).to (by rw [tx_len])
end
end DL

/-! DR: expressions that raise, by data (own work). -/
namespace DL
open PySem L2 PySem.W
/-- te ends with an exception of C1, with the fields gs -/
def EvX (K : PySem.W.Frag) (te : TE) (ro : Ro) (ka : Cells) (E : XK) (C1 : Addr) (gs : List (Str × D)) (k2 : Cells) : Prop := ∀ B F0 ta sg H (Q : VK), En K B F0 ro ka ta sg H → (∀ dx H', En K B F0 ro (k2 ++ [(dx, .xd gs)]) ta sg H' → E (.ref C1) (some dx) H') → te sg H Q
section
variable {K : PySem.W.Frag} {B F0 : Hp} {ro : Ro} {ka k1 k2 k3 kr : Cells} {ta : List (V × W)} {sg : L2.St} {H : Hp} {te tf : TE} {tr : TA} {x y : W} {C C1 : Addr} {fs gs : List (Str × D)} {b : Bool} {E : XK} {De : Ends}
theorem evx_call {Cc : Ct} {ws : List W} {E' : XK} (ha : EvA K tr ro ka ws (k2 ++ kr)) (hC : Cc ws k2 (Xt C1 gs k3)) (hE : E' = E) : EvX K (tCall (spC K Cc) [] E' tr) ro ka E C1 gs (k3 ++ kr) := fun B F0 ta sg H Q e q => by
  subst hE
  refine ha B F0 ta sg H _ e fun vs H1 hl e1 => ?_
  rw [List.append_nil]
  refine sp_exc e1 hl hC (fun _ _ z => z) fun dx H' e3 => q dx H' (e3.perm ?_)
  rw [List.append_assoc, List.append_assoc]
  exact List.Perm.append_left _ List.perm_append_comm
theorem evx_prop {Cc : Ct} {E' : XK} (h : EvX K te ro ka E C1 gs k2) : EvX K (tProp C (spC K Cc) [] E' te) ro ka E C1 gs k2 := fun B F0 ta sg H Q e q => h B F0 ta sg H _ e q
theorem evx_lst (h : EvX K te ro ka E C1 gs k2) : EvX K (tLst (tCons te tr)) ro ka E C1 gs k2 := fun B F0 ta sg H Q e q => h B F0 ta sg H _ e q
/-- return of an expression that raises, caught -/
theorem g_retX {c : Value} {i : Nat} {ts : Addr → Value → Option Addr → TS} {Wout : WX} {De' : Ends} (h : EvX K te ro ka (XW ro.length (wAs K c i ts Wout De)) C1 gs k2) (hx : exmOne K (.ref C1) c = some true)
    (hs : ∀ a dx, Gp K B F0 ta (ts a (.ref C1) (some dx) { nx := fun σ' H' => De.nx (σ'.set i none) H', rt := De.rt, bk := fun σ' H' => De.bk (σ'.set i none) H', ct := fun σ' H' => De.ct (σ'.set i none) H' }) ((List.replicate ro.length none).set i (some (.val (.adr a)))) (k2 ++ [(dx, .xd gs)])) : Gp K B F0 ta (tRet te De') ro ka := fun sg H e =>
  h B F0 ta sg H _ e fun dx H' e' => xw_as hx (fun a => hs a dx) e'
end
end DL
namespace DL
open PySem L2 PySem.W
theorem cut_to' {β : Type} {xs : List β} {i : Int} (h0 : 0 ≤ i) : cutD xs none (some i) = xs.take i.toNat := by
  by_cases h1 : i ≤ xs.length
  · exact cut_to h0 h1
  · unfold cutD HT.sIx
    dsimp only
    rw [if_neg (by omega), List.drop_zero, Nat.sub_zero, Nat.min_eq_right (by omega), List.take_of_length_le (Nat.le_refl _), List.take_of_length_le (by omega)]
theorem stD_app (xs ys : List Str) : stD xs ++ stD ys = stD (xs ++ ys) := by unfold stD; rw [List.map_append]
theorem stD_get {ss : List Str} {i : Nat} {s : Str} (h : ss[i]? = some s) : (stD ss)[i]? = some (.str s) := by unfold stD; rw [List.getElem?_map, h]; rfl
end DL
namespace DL
open PySem L2 PySem.W
end DL
namespace DL
open PySem L2 PySem.W
def inD (ns : List Int) : List D := ns.map .int
/-- w is the script -/
def Scr (K : PySem.W.Frag) (w : W) (ns : List Int) : Prop := w = .val (.lst (inD ns)) ∨ ∃ p, w = .val (.adr p) ∧ ∀ H, SqL K H p (ns.map V.int)
theorem law_sp {K : PySem.W.Frag} {Cc : Ct} {H : Hp} {a : Addr} {ns : List Int} (hC : ∀ z, Scr K z ns → Cc [z] [] (Rt (.bl true) [])) (hS : SqL K H a (ns.map V.int)) : spC K Cc [.ref a] H (fun v _ => v = .bl true) fun _ _ _ => False := by
  have rt : ∀ {B F0 : Hp}, RtOk K B F0 (Rt (.bl true) []) (fun v _ => v = .bl true) := fun {B F0} d ka v H' o e => by
    obtain ⟨h, _⟩ := o
    cases h
    exact e.tm_bl List.mem_cons_self
  have rx : ∀ {B F0 : Hp}, RxOk K B F0 (Rt (.bl true) []) (fun _ _ _ => False) := fun {B F0} => ⟨fun C fs ka dx H' o _ => (by cases o.1), fun C ka H' o _ => (by cases o.1)⟩
  have nob : Sub (fun _ => none) H := fun _ _ h => by cases h
  rcases id hS with h | h
  · refine ⟨fun _ => none, gH H, [.val (.lst (inD ns))], [], _, hC _ (.inl rfl), rfl, ⟨gH H, Gr.refl _ _, gH_nz, gH_exz, nob, List.nodup_nil, fun p hp => (by cases hp), rfl, fun i w e => by simp at e, fun p hp => ?_⟩, rt, rx⟩
    have hp2 : p = (V.ref a, W.val (.lst (inD ns))) := by simpa using hp
    subst hp2
    refine ⟨a, ns.map V.int, rfl, .inl ?_, rpl_ints ns⟩
    unfold gH
    rcases h with h | ⟨o, h⟩
    · rw [h]
    · rw [h]
      rfl
  · refine ⟨fun _ => none, fun _ => none, [.val (.adr a)], [], _, hC _ (.inr ⟨a, rfl, fun _ => .inr h⟩), rfl, ⟨fun _ => none, Gr.refl _ _, fun _ _ h => (by cases h), fun _ _ h => (by cases h), nob, List.nodup_nil, fun p hp => (by cases hp), rfl, fun i w e => by simp at e, fun p hp => ?_⟩, rt, rx⟩
    have hp2 : p = (V.ref a, W.val (.adr a)) := by simpa using hp
    subst hp2
    rfl
/-- what the head must tell of a law's def: its contract, kept by every list of numbers -/
def LawIn (l : PySem.W.OpenLaw) (k : Nat) (x : Str) (w : World) (mg : Str → Option Value) (f : Addr) (h : Heap) : Prop :=
  ∃ (K : PySem.W.Frag) (Cc : Ct) (fd : FuncData), K.In h ∧ (∀ z ns, Scr K z ns → Cc [z] [] (Rt (.bl true) [])) ∧ (∀ (s : Shared) (u : Value), BindsTo s fd ⟨[u], []⟩ [(x, u)]) ∧ ∀ base : Heap, FnOk l.prog w K mg base (L2.CX l.prog w) k f fd [x] (spC K Cc)
abbrev LawWalk (l : PySem.W.OpenLaw) (q : Program) (loose : List Str) (XP : (Str → Option Value) → Heap → Prop) (YP : World → Heap → Prop) (d : DefRec) : Prop := PySem.W.WalkO q loose XP YP l.row.toRowW d [] (fun g us => PySem.call g us)
/-- the law's walk, from what the head tells -/
theorem walk_D {l : PySem.W.OpenLaw} {n k : Nat} {q : Program} {loose : List Str} {XP : (Str → Option Value) → Heap → Prop} {YP : World → Heap → Prop} {d : DefRec} {x : Str} (most : l.most = some n) (fits : n ≤ sizeLine)
    (plain : d.params.defaults = []) (room : Room k callerA) (told : ∀ w mg f h, YP w h → h.Ns mainGlobals mg → mg d.name = some (.ref f) → LawIn l k x w mg f h) : LawWalk l q loose XP YP d :=
  Att.attach_call most plain fun w _ _ mg _ f _ _ _ _ arg vs ns G known _ _ _ at_ obj nums short grown => by
    have ⟨K, Cc, fd, inH, keeps, binds, ok⟩ := told w mg f _ known G.T.g at_
    exact law_call inH G.T.g G.T.b G.T.builtins G.T.nolimit grown obj nums (Nat.le_trans short fits) room (fun base _ _ => ok base) binds (fun H _ S => law_sp (fun z hz => keeps z ns hz) S) fun H e s' z => by
      obtain ⟨_, _, _, _, _, _, _, _, _, _, _, _, bad⟩ := z
      exact bad
end DL

/-! DU: tuple * number (own work). -/
namespace DL
open PySem PySem.Spec PyProof.Rows L2
section
open PySem.W
variable {K : PySem.W.Frag} {ro : Ro} {ka k1 k2 : Cells} {te tf : TE}
/-- name op= number -/
theorem g_augI {B F0 : Hp} {ta : List (V × W)} {De : Ends} {i : Nat} {x y z : Int} {ti : TIp} (hi : ro[i]? = some (some (.val (.int x)))) (h : EvD K te ro ka (.val (.int y)) k1) (ht : ∀ H Q, Q (.int z) H → ti (.int x) (.int y) H Q) (k : Gp K B F0 ta De.nx (ro.set i (some (.val (.int z)))) k1) : Gp K B F0 ta (tAug i te ti De) ro ka := fun sg H e => by
  obtain ⟨F, g, ef⟩ := id e
  obtain ⟨v, h1, h2⟩ := ef.sl i _ hi
  have hv : v = .int x := h2
  subst hv
  refine ⟨_, h1, h B F0 ta sg H _ e fun w H1 e1 => ?_⟩
  have hw := e1.tm_int (v := w) (i := y) List.mem_cons_self
  subst hw
  exact ht _ _ (k _ _ ((e1.pop.push_imm (v := .int z) (w := .val (.int z)) fun _ => rfl).set i))
end
end DL

/-! DV: dicts, sorted texts, data compared by < (own work). -/
namespace DL
open PySem L2 PySem.W

/-! ### tables -/
section
variable {κ α β : Type} [DecidableEq κ]
def getT (kvs : List (κ × α)) (k : κ) : Option α := (kvs.find? fun kv => decide (kv.1 = k)).map (·.2)
def hasT (kvs : List (κ × α)) (k : κ) : Bool := kvs.any fun p => decide (p.1 = k)
def newAt (k : κ) (v : α) (p : κ × α) : κ × α := if p.1 = k then (p.1, v) else p
/-- a key that stands keeps its place, a new one comes last -/
def putT (kvs : List (κ × α)) (k : κ) (v : α) : List (κ × α) := if hasT kvs k = true then kvs.map (newAt k v) else kvs ++ [(k, v)]
def dropT (kvs : List (κ × α)) (k : κ) : List (κ × α) := kvs.filter fun kv => decide (kv.1 ≠ k)
/-- tables of the same keys -/
def PT (R : α → β → Prop) : List (κ × α) → List (κ × β) → Prop
  | [], xs => xs = []
  | (k, d) :: ds, xs => ∃ x ys, xs = (k, x) :: ys ∧ R d x ∧ PT R ds ys
variable {R : α → β → Prop}
theorem PT.any : ∀ {ds : List (κ × α)} {xs : List (κ × β)}, PT R ds xs → ∀ k, hasT xs k = hasT ds k
  | [], xs, h, k => by rw [show xs = [] from h]; rfl
  | (k', d) :: ds, xs, h, k => by
    obtain ⟨x, ys, rfl, _, h2⟩ := h
    unfold hasT
    rw [List.any_cons, List.any_cons]
    exact congrArg (fun z => decide (k' = k) || z) (PT.any h2 k)
theorem PT.map (k : κ) {d : α} {x : β} (r : R d x) : ∀ {ds : List (κ × α)} {xs : List (κ × β)}, PT R ds xs → PT R (ds.map (newAt k d)) (xs.map (newAt k x))
  | [], xs, h => by rw [show xs = [] from h]; rfl
  | (k', d') :: ds, xs, h => by
    obtain ⟨x', ys, rfl, h1, h2⟩ := h
    have rest := PT.map k r h2
    by_cases e : k' = k
    · have e1 : newAt k d (k', d') = (k', d) := if_pos e
      have e2 : newAt k x (k', x') = (k', x) := if_pos e
      rw [List.map_cons, e1, List.map_cons, e2]
      exact ⟨x, _, rfl, r, rest⟩
    · have e1 : newAt k d (k', d') = (k', d') := if_neg e
      have e2 : newAt k x (k', x') = (k', x') := if_neg e
      rw [List.map_cons, e1, List.map_cons, e2]
      exact ⟨x', _, rfl, h1, rest⟩
theorem PT.snoc {k : κ} {d : α} {x : β} (r : R d x) : ∀ {ds : List (κ × α)} {xs : List (κ × β)}, PT R ds xs → PT R (ds ++ [(k, d)]) (xs ++ [(k, x)])
  | [], xs, h => by rw [show xs = [] from h]; exact ⟨x, [], rfl, r, rfl⟩
  | (k', d') :: ds, xs, h => by
    obtain ⟨x', ys, rfl, h1, h2⟩ := h
    exact ⟨x', _, rfl, h1, PT.snoc r h2⟩
theorem PT.put {ds : List (κ × α)} {xs : List (κ × β)} (h : PT R ds xs) (k : κ) {d : α} {x : β} (r : R d x) : PT R (putT ds k d) (putT xs k x) := by
  unfold putT
  rw [h.any k]
  split
  · exact h.map k r
  · exact h.snoc r
theorem PT.drop (k : κ) : ∀ {ds : List (κ × α)} {xs : List (κ × β)}, PT R ds xs → PT R (dropT ds k) (dropT xs k)
  | [], xs, h => by rw [show xs = [] from h]; rfl
  | (k', d') :: ds, xs, h => by
    obtain ⟨x', ys, rfl, h1, h2⟩ := h
    unfold dropT
    rw [List.filter_cons, List.filter_cons]
    by_cases e : k' = k
    · rw [if_neg (by simpa using e), if_neg (by simpa using e)]; exact PT.drop k h2
    · rw [if_pos (by simpa using e), if_pos (by simpa using e)]; exact ⟨x', _, rfl, h1, PT.drop k h2⟩
theorem PT.get (k : κ) : ∀ {ds : List (κ × α)} {xs : List (κ × β)}, PT R ds xs → (getT ds k = none → getT xs k = none) ∧ ∀ d, getT ds k = some d → ∃ x, getT xs k = some x ∧ R d x
  | [], xs, h => by rw [show xs = [] from h]; exact ⟨fun _ => rfl, fun d q => by cases q⟩
  | (k', d') :: ds, xs, h => by
    obtain ⟨x', ys, rfl, h1, h2⟩ := h
    by_cases e : k' = k
    · have e1 : getT ((k', d') :: ds) k = some d' := by simp [getT, List.find?_cons, e]
      have e2 : getT ((k', x') :: ys) k = some x' := by simp [getT, List.find?_cons, e]
      rw [e1, e2]
      refine ⟨fun q => (by cases q), fun d q => ?_⟩
      cases q
      exact ⟨x', rfl, h1⟩
    · have e1 : getT ((k', d') :: ds) k = getT ds k := by simp [getT, List.find?_cons, e]
      have e2 : getT ((k', x') :: ys) k = getT ys k := by simp [getT, List.find?_cons, e]
      rw [e1, e2]
      exact PT.get k h2
theorem PT.len : ∀ {ds : List (κ × α)} {xs : List (κ × β)}, PT R ds xs → xs.length = ds.length
  | [], xs, h => by rw [show xs = [] from h]; rfl
  | (k', d') :: ds, xs, h => by
    obtain ⟨x', ys, rfl, h1, h2⟩ := h
    rw [List.length_cons, List.length_cons, PT.len h2]
theorem PT.at : ∀ {ds : List (κ × α)} {xs : List (κ × β)}, PT R ds xs → ∀ {i : Nat} {p : κ × α}, ds[i]? = some p → ∃ x, xs[i]? = some (p.1, x) ∧ R p.2 x
  | [], xs, h, i, p, e => by simp at e
  | (k', d') :: ds, xs, h, 0, p, e => by
    obtain ⟨x', ys, rfl, h1, h2⟩ := h
    cases e
    exact ⟨x', rfl, h1⟩
  | (k', d') :: ds, xs, h, i + 1, p, e => by
    obtain ⟨x', ys, rfl, h1, h2⟩ := h
    exact PT.at h2 (i := i) (by simpa using e)
theorem putT_len (kvs : List (κ × α)) (k : κ) (v : α) : (putT kvs k v).length ≤ kvs.length + 1 := by
  unfold putT
  split
  · rw [List.length_map]; omega
  · rw [List.length_append, List.length_cons, List.length_nil]; omega
end
theorem rpk_pt {K : PySem.W.Frag} {F : Hp} : ∀ {ds : List (Key × D)} {xs : List (Key × V)}, RpK K F ds xs ↔ PT (Rp K F) ds xs
  | [], xs => Iff.rfl
  | (k, d) :: ds, xs => ⟨fun ⟨x, ys, e, h1, h2⟩ => ⟨x, ys, e, h1, rpk_pt.mp h2⟩, fun ⟨x, ys, e, h1, h2⟩ => ⟨x, ys, e, h1, rpk_pt.mpr h2⟩⟩
/-- a key as data -/
def kD : Key → D
  | .inl i => .int i
  | .inr s => .str s

section
variable {K : PySem.W.Frag} {B F F0 : Hp} {ro : Ro} {ka k1 k2 k3 kr : Cells} {ta : List (V × W)} {sg : L2.St} {H H' : Hp} {te tf tg tk tv : TE} {tr : TA} {tt tu : TT} {w x y z : W} {n m : Nd} {C dx a : Addr} {b : Bool} {P : L2.St → Hp → Prop} {De : Ends} {t u : TS} {E : XK}
theorem En.tm_key (e : En K B F0 ro ka ta sg H) {v : V} {k : Key} (h : (v, W.val (kD k)) ∈ ta) : v = kV k := by
  cases k with
  | inl i => exact e.tm_int h
  | inr s => exact e.tm_str h
/-- {k: v for x in .. if ..}: what is told of the dict -/
theorem evr_dc {wi : TI} {ws : List W} {C : Cells → Prop} {j : Nat} {vs : List Nat} (h : EvI K wi ro ka ws C k1) (hj : j ∈ vs) (hn : ws.length ≤ 1000000) (Inv : Nat → List (Key × D) → Cells → Prop) (h0 : Inv 0 [] k1) (hC : ∀ i acc k, Inv i acc k → C k ∧ ∀ x, C (k ++ [x]))
    (hs : ∀ i w acc k, ws[i]? = some w → Inv i acc k → (∃ k2, EvT K tt ((wipeR ro vs).set j (some w)) k false k2 ∧ Inv (i + 1) acc k2) ∨ ∃ k2 k3 k4 c d, EvT K tt ((wipeR ro vs).set j (some w)) k true k2 ∧ EvD K tk ((wipeR ro vs).set j (some w)) k2 (.val (kD c)) k3 ∧ EvD K tv ((wipeR ro vs).set j (some w)) k3 (.val d) k4 ∧ Inv (i + 1) (putT acc c d) k4)
    : EvNR K (tDc wi (gName j) tt tk tv vs) ro ka (fun n k => ∃ acc, n = .dic acc ∧ Inv ws.length acc k) := fun B F0 ta sg H Q e q =>
  h B F0 ta sg H _ e fun J ta' H1 hta e1 hgo hst => fun Dl hD => by
    let P : Nat → Hp → Prop := fun i H => ∃ acc k, Inv i acc k ∧ acc.length ≤ i ∧ En K B F0 ro (k ++ [(Dl, .dic acc)]) ta' sg H
    have p0 : P 0 (upd H1 Dl (.dK [])) := by
      obtain ⟨F, g, e1⟩ := e1
      exact ⟨[], k1, h0, Nat.le_refl _, F, g, e1.cell (o := .dK []) hD (n := .dic []) ⟨[], upd_same, rfl⟩⟩
    refine ⟨fun i m H => m = ws.length - i ∧ i ≤ ws.length ∧ P i H, ⟨ws.length, by simp, Nat.zero_le _, p0⟩, ?_⟩
    rintro i m H2 ⟨rfl, hi, acc, k, inv, hlen, e2⟩
    by_cases hlt : i < ws.length
    · have hw := List.getElem?_eq_getElem hlt
      obtain ⟨g1, g2⟩ := hgo i ws[i] ro (k ++ [(Dl, .dic acc)]) ta' sg H2 hw ((hC i acc k inv).2 _) (fun p hp => hp) e2
      refine .inr ⟨g1, P (i + 1), fun H' p => ⟨ws.length - (i + 1), by omega, rfl, hlt, p⟩, fun x H3 y => ?_⟩
      have e3 := g2 x H3 y
      refine ⟨wipe_set sg vs hj x, ?_⟩
      have out : ∀ {k : Cells} {ta2 : List (V × W)} {H : Hp}, (∃ F, Gr B F0 F ∧ EnF K B F ((wipeR ro vs).set j (some ws[i])) k ta2 ((wipe sg vs).set j (some x)) H ∧ ∀ (a : Nat) w, ro[a]? = some (some w) → ∃ v, sg[a]? = some (some v) ∧ WOk K B F v w) → En K B F0 ro k ta2 sg H := fun ⟨F, g, q, hs⟩ => ⟨F, g, q.frame (by obtain ⟨_, _, e0⟩ := e; exact e0.ln) hs⟩
      obtain ⟨F3, gF3, eF3⟩ := e3
      have slots : ∀ {F : Hp}, Gr B F3 F → ∀ (a : Nat) w, ro[a]? = some (some w) → ∃ v, sg[a]? = some (some v) ∧ WOk K B F v w := fun {F} g a w ha => by
        obtain ⟨v, h1, h2⟩ := eF3.sl a w ha
        exact ⟨v, h1, wok_gr eF3.nz g h2⟩
      have e4' : En K B F3 ((wipeR ro vs).set j (some ws[i])) (k ++ [(Dl, .dic acc)]) ta' ((wipe sg vs).set j (some x)) H3 :=
        ⟨F3, Gr.refl _ _, ((wipe_en (vs := vs) eF3).set (eF3.tm _ List.mem_cons_self) j).held fun p hp => List.mem_cons_of_mem _ hp⟩
      rcases hs i ws[i] acc k hw inv with ⟨k2, t1, inv2⟩ | ⟨k2, k3, k4, c, d, t1, t2, t3, inv2⟩
      · refine t1.fr [(Dl, .dic acc)] B F3 ta' _ H3 _ e4' fun H4 ⟨F4, g4, e5⟩ => ?_
        exact ⟨acc, k2, inv2, Nat.le_succ_of_le hlen, out ⟨F4, gF3.trans g4, e5, slots g4⟩⟩
      · refine t1.fr [(Dl, .dic acc)] B F3 ta' _ H3 _ e4' fun H4 e5 => ?_
        refine t2.fr [(Dl, .dic acc)] B F3 ta' _ H4 _ e5 fun u H5 e6 => ?_
        have hu := e6.tm_key (v := u) (k := c) List.mem_cons_self
        refine t3.fr [(Dl, .dic acc)] B F3 _ _ H5 _ e6 fun v H6 ⟨F5, g5, e7⟩ => ?_
        have hx : (k4 ++ [(Dl, Nd.dic acc)])[k4.length]? = some (Dl, Nd.dic acc) := by simp
        obtain ⟨xs, h1, h2⟩ := (e7.ce _ (List.mem_of_getElem? hx)).2.2
        have hv := e7.tm _ List.mem_cons_self
        have e8 := e7.write (o := .dK (putK xs c v)) (n' := .dic (putT acc c d)) hx ⟨_, upd_same, rpk_pt.mpr ((rpk_pt.mp h2).put c hv)⟩
        have hset : (k4 ++ [(Dl, Nd.dic acc)]).set k4.length (Dl, Nd.dic (putT acc c d)) = k4 ++ [(Dl, Nd.dic (putT acc c d))] := by
          rw [List.set_append_right _ _ (Nat.le_refl _)]
          simp
        rw [hset] at e8
        refine ⟨xs, c, hu, h1, by rw [(rpk_pt.mp h2).len]; exact Nat.lt_of_le_of_lt (Nat.le_trans hlen (Nat.le_trans hi hn)) (by decide), putT acc c d, k4, inv2, Nat.le_trans (putT_len _ _ _) (Nat.succ_le_succ hlen), ?_⟩
        exact out ⟨F5, gF3.trans g5, e8.held fun p hp => List.mem_cons_of_mem _ (List.mem_cons_of_mem _ hp), slots g5⟩
    · have ei : i = ws.length := by omega
      subst ei
      refine .inl ⟨hst _ ro (k ++ [(Dl, .dic acc)]) ta' sg H2 (Nat.le_refl _) ((hC _ acc k inv).2 _) (fun p hp => hp) e2, ?_⟩
      exact q _ _ Dl H2 ⟨acc, rfl, inv⟩ (e2.held hta)

/-! ### a dict that is the def's own, locked while it is walked -/
theorem En.cellAt (e : En K B F0 ro ka ta sg H) {j : Nat} (hj : ka[j]? = some (a, n)) : ∃ F, Gr B F0 F ∧ EnF K B F ro ka ta sg H ∧ NdOk K F H a n := let ⟨F, g, q⟩ := e; ⟨F, g, q, (q.ce _ (List.mem_of_getElem? hj)).2.2⟩
theorem set_back {β : Type} {l : List β} {j : Nat} {x y : β} (h : l[j]? = some x) : (l.set j y).set j x = l := by
  rw [List.set_set]
  refine List.ext_getElem? fun i => ?_
  by_cases e : j = i
  · subst e
    rw [List.getElem?_set_self (List.getElem?_eq_some_iff.mp h).1, h]
  · rw [List.getElem?_set_ne e]
theorem get_set {β : Type} {l : List β} {j : Nat} {x y : β} (h : l[j]? = some x) : (l.set j y)[j]? = some y := List.getElem?_set_self (List.getElem?_eq_some_iff.mp h).1
theorem evn_lock {j : Nat} {ds : List (Key × D)} (hj : ka[j]? = some (a, .dic ds)) (hj1 : k1[j]? = some (a, .dic ds)) (h : ∀ o xs, EvN K te ro (ka.set j (a, .ldic o xs ds)) n (k1.set j (a, .ldic o xs ds))) : EvN K (tLockE te) ro ka n k1 := fun B F0 ta sg H Q e q => by
  obtain ⟨F, g, ef, xs, hx, rx⟩ := e.cellAt hj
  refine ⟨a, .dK xs, hx, trivial, fun od => ?_⟩
  refine h od xs B F0 ta sg _ _ ⟨F, g, ef.write hj ⟨upd_same, rx⟩⟩ fun v H1 e1 => ?_
  have hl : j < (k1.set j (a, Nd.ldic od xs ds)).length := by rw [List.length_set]; exact (List.getElem?_eq_some_iff.mp hj1).1
  have hg : (k1.set j (a, Nd.ldic od xs ds) ++ [(v, n)])[j]? = some (a, Nd.ldic od xs ds) := by rw [List.getElem?_append_left hl]; exact get_set hj1
  obtain ⟨F1, g1, ef1, hx1, rx1⟩ := e1.cellAt hg
  refine ⟨hx1, q _ _ ⟨F1, g1, ?_⟩⟩
  have := ef1.write (o := .dK xs) (n' := .dic ds) hg ⟨xs, upd_same, rx1⟩
  rwa [List.set_append_left _ _ hl, set_back hj1] at this
/-- the keys of a locked dict -/
theorem ei_keys {o : Obj} {xs : List (Key × V)} {ds : List (Key × D)} (h : EvD K te ro ka (.val (.adr a)) k1) (hm : (a, Nd.ldic o xs ds) ∈ k1) : EvI K (iKeys te) ro ka (ds.map fun kv => W.val (kD kv.1)) (fun k => (a, Nd.ldic o xs ds) ∈ k) k1 := fun B F0 ta sg H R e q =>
  h B F0 ta sg H _ e fun v H1 e1 => by
    have hv := e1.tm_adr (v := v) (a := a) List.mem_cons_self
    subst hv
    obtain ⟨F, g, ef⟩ := id e1
    obtain ⟨hx, rx⟩ := (ef.ce _ hm).2.2
    refine ⟨a, o, rfl, .inl ⟨xs, hx, q _ ta H1 (fun p hp => hp) e1.pop (fun i w2 ro2 ka2 ta2 sg2 H2 hw hs _ e2 => ?_) fun i ro2 ka2 ta2 sg2 H2 hi hs _ e2 => ?_⟩⟩
    · obtain ⟨F2, g2, ef2⟩ := id e2
      obtain ⟨hx2, rx2⟩ := (ef2.ce _ hs).2.2
      rw [List.getElem?_map] at hw
      cases hd : ds[i]? with
      | none => rw [hd] at hw; cases hw
      | some p =>
        rw [hd] at hw
        cases hw
        obtain ⟨y, hy, _⟩ := (rpk_pt.mp rx2).at hd
        refine ⟨⟨hx2, (List.getElem?_eq_some_iff.mp hy).1⟩, fun x H3 ⟨e3, k, v, hk, ek⟩ => ?_⟩
        subst e3 ek
        rw [hy] at hk
        cases hk
        obtain ⟨pk, pd⟩ := p
        exact e2.push_imm fun F => by cases pk <;> rfl
    · obtain ⟨F2, g2, ef2⟩ := id e2
      obtain ⟨hx2, rx2⟩ := (ef2.ce _ hs).2.2
      refine ⟨hx2, ?_⟩
      rw [(rpk_pt.mp rx2).len]
      rwa [List.length_map] at hi

/-! ### sorted texts -/
theorem lt_cps : ∀ a b : List Nat, Spec.ltCps a b = decide (a < b)
  | [], [] => rfl
  | [], _ :: _ => rfl
  | _ :: _, [] => rfl
  | x :: r, y :: t => by
    show (decide (x < y) || (x == y && Spec.ltCps r t)) = _
    rw [lt_cps r t, Bool.eq_iff_iff]
    simp [List.cons_lt_cons_iff]
/-- the order of texts -/
def ltS (a b : Str) : Bool := decide (a.cps.toList < b.cps.toList)
theorem ltS_irr (a : Str) : ltS a a = false := decide_eq_false (List.lt_irrefl _)
theorem ltS_trans {a b c : Str} (h : ltS a b = true) (h2 : ltS b c = true) : ltS a c = true := decide_eq_true (List.lt_trans (of_decide_eq_true h) (of_decide_eq_true h2))
theorem ltS_tri {a b : Str} (h : ltS a b = false) (h2 : ltS b a = false) : a = b := str_ext (List.le_antisymm (List.not_lt.mp (of_decide_eq_false h2)) (List.not_lt.mp (of_decide_eq_false h)))
theorem ltS_asym {a b : Str} (h : ltS a b = true) : ltS b a = false := by
  cases q : ltS b a with
  | false => rfl
  | true => have := ltS_trans h q; rw [ltS_irr] at this; cases this
/-- ascending: none is less than one ahead of it -/
def AscS (xs : List Str) : Prop := xs.Pairwise fun a b => ltS b a = false
theorem asc_rising : ∀ (xs : List Str) (p : Str), PyProof.Rows.risingS p xs = true → AscS (p :: xs)
  | [], p, _ => List.pairwise_singleton ..
  | x :: r, p, h => by
    have h' : (!Spec.ltCps x.cps.toList p.cps.toList && PyProof.Rows.risingS x r) = true := h
    rw [Bool.and_eq_true, lt_cps] at h'
    have ih := asc_rising r x h'.2
    have hx : ltS x p = false := by
      have := h'.1
      unfold ltS
      cases q : decide (x.cps.toList < p.cps.toList) with
      | false => rfl
      | true => rw [q] at this; cases this
    refine List.pairwise_cons.mpr ⟨fun b hb => ?_, ih⟩
    rcases List.mem_cons.mp hb with rfl | hb
    · exact hx
    · have h2 := (List.pairwise_cons.mp ih).1 b hb
      cases q : ltS b p with
      | false => rfl
      | true =>
        cases q2 : ltS p x with
        | true => have := ltS_trans q q2; rw [h2] at this; cases this
        | false => rw [ltS_tri q2 hx] at q; rw [h2] at q; cases q
theorem asc_sorted {xs : List Str} (h : PyProof.Rows.sortedS xs = true) : AscS xs := by
  cases xs with
  | nil => exact List.Pairwise.nil
  | cons x r => exact asc_rising r x h
theorem asc_unique : ∀ {xs ys : List Str}, xs.Perm ys → AscS xs → AscS ys → xs = ys
  | [], ys, p, _, _ => (List.nil_perm.mp p).symm
  | x :: xs, [], p, _, _ => by have := p.length_eq; cases this
  | x :: xs, y :: ys, p, h1, h2 => by
    have e : x = y := by
      have hx : x ∈ y :: ys := p.subset List.mem_cons_self
      have hy : y ∈ x :: xs := p.symm.subset List.mem_cons_self
      rcases List.mem_cons.mp hx with rfl | hx
      · rfl
      rcases List.mem_cons.mp hy with rfl | hy
      · rfl
      exact ltS_tri ((List.pairwise_cons.mp h2).1 x hx) ((List.pairwise_cons.mp h1).1 y hy)
    subst e
    rw [asc_unique ((List.perm_cons x).mp p) (List.pairwise_cons.mp h1).2 (List.pairwise_cons.mp h2).2]
def insS (x : Str) : List Str → List Str
  | [] => [x]
  | y :: r => if ltS y x then y :: insS x r else x :: y :: r
def srt : List Str → List Str
  | [] => []
  | x :: r => insS x (srt r)
theorem insS_perm (x : Str) : ∀ r : List Str, (insS x r).Perm (x :: r)
  | [] => List.Perm.refl _
  | y :: r => by
    unfold insS
    split
    · exact ((insS_perm x r).cons y).trans (List.Perm.swap x y r)
    · exact List.Perm.refl _
theorem srt_perm : ∀ r : List Str, (srt r).Perm r
  | [] => List.Perm.refl _
  | x :: r => (insS_perm x _).trans ((srt_perm r).cons x)
theorem insS_asc {x : Str} : ∀ {r : List Str}, AscS r → AscS (insS x r)
  | [], _ => List.pairwise_singleton ..
  | y :: r, h => by
    unfold insS
    split
    · rename_i q
      refine List.pairwise_cons.mpr ⟨fun b hb => ?_, insS_asc (List.pairwise_cons.mp h).2⟩
      rcases List.mem_cons.mp ((insS_perm x r).subset hb) with rfl | hb
      · exact ltS_asym q
      · exact (List.pairwise_cons.mp h).1 b hb
    · rename_i q
      have q : ltS y x = false := by simpa using q
      refine List.pairwise_cons.mpr ⟨fun b hb => ?_, h⟩
      rcases List.mem_cons.mp hb with rfl | hb
      · exact q
      · have h2 := (List.pairwise_cons.mp h).1 b hb
        cases q3 : ltS b x with
        | false => rfl
        | true =>
          cases q2 : ltS x y with
          | true => have := ltS_trans q3 q2; rw [h2] at this; cases this
          | false => rw [ltS_tri q2 q] at q3; rw [h2] at q3; cases q3
theorem srt_asc : ∀ r : List Str, AscS (srt r)
  | [] => List.Pairwise.nil
  | x :: r => insS_asc (srt_asc r)
theorem srt_len (r : List Str) : (srt r).length = r.length := (srt_perm r).length_eq
theorem srt_eq {xs ys : List Str} (h : xs.Perm ys) : srt xs = srt ys := asc_unique ((srt_perm xs).trans (h.trans (srt_perm ys).symm)) (srt_asc _) (srt_asc _)
theorem mem_srt {s : Str} {xs : List Str} : s ∈ srt xs ↔ s ∈ xs := (srt_perm xs).mem_iff
theorem rpl_strs {F : Hp} : ∀ {ss : List Str} {vs : List V}, RpL K F (stD ss) vs → vs = ss.map V.str
  | [], vs, h => h
  | s :: ss, vs, h => by
    obtain ⟨x, ys, rfl, h1, h2⟩ := h
    rw [rpl_strs h2, show x = V.str s from h1]
    rfl
theorem rpl_mk {F : Hp} : ∀ (ss : List Str), RpL K F (stD ss) (ss.map V.str)
  | [] => rfl
  | s :: ss => ⟨.str s, _, rfl, rfl, rpl_mk ss⟩
/-- sorted(texts): lists -/
theorem rcn_srt {b : Bool} {ss : List Str} (l : Lk ka w false (stD ss) b) (hz : ss.length < 64) : RcN K (rSortedS K) ka [w] (.lst (stD (srt ss))) := fun B F0 ro ta sg H us Q e hl hm q => by
  obtain ⟨u, rfl, hu⟩ := zip_one hl hm
  obtain ⟨F, g, ef⟩ := id e
  obtain ⟨a, xs, rfl, s1, r1⟩ := l.get ef (ef.tm _ hu)
  have ex := rpl_strs r1
  subst ex
  refine ⟨a, ss, rfl, .inl s1, hz, fun ys p hp hs hn => q _ _ ?_⟩
  have ey := asc_unique (hp.trans (srt_perm ss).symm) (asc_sorted hs) (srt_asc ss)
  subst ey
  exact ⟨F, g, ef.cell (o := .lst ((srt ss).map V.str)) hn (n := .lst (stD (srt ss))) ⟨_, upd_same, rpl_mk _⟩⟩
theorem evn_srt {b : Bool} {ss : List Str} (h : EvD K te ro ka w k1) (l : Lk k1 w false (stD ss) b) (hz : ss.length < 64) : EvN K (tCB (rSortedS K) (tCons te tNil)) ro ka (.lst (stD (srt ss))) k1 := evn_cb (ea1 h) (rcn_srt l hz)
/-- str(text) -/
def rStrS : List V → Hp → VK → Prop := fun xs H Q => ∃ a, xs = [.str a] ∧ Q (.str a) H
theorem call_strS {X : Cx} : CallR X (.type "str") rStrS := SkE.call_str_str
theorem ev_strS {s : Str} (h : EvD K te ro ka (.val (.str s)) k1) : EvD K (tCB rStrS (tCons te tNil)) ro ka (.val (.str s)) k1 := ev_cb (ea1 h) fun B F0 ro ta sg H us Q e hl hm q => by
  obtain ⟨u, rfl, hu⟩ := zip_one hl hm
  have := e.tm_str hu
  subst this
  exact ⟨s, rfl, q _ _ (e.push_imm fun _ => rfl)⟩
/-- the different ones, in the order in which they come -/
def dedS (xs : List Str) : List Str := xs.foldl (fun acc s => if s ∈ acc then acc else acc ++ [s]) []
def inOrd (xs : List Str) : List Str := srt (dedS xs)
theorem dedS_snoc (xs : List Str) (s : Str) : dedS (xs ++ [s]) = if s ∈ dedS xs then dedS xs else dedS xs ++ [s] := by
  unfold dedS
  rw [List.foldl_append]
  rfl
theorem dedS_all (n : Nat) : ∀ xs : List Str, xs.length = n → (dedS xs).Nodup ∧ (∀ s, s ∈ dedS xs ↔ s ∈ xs) ∧ (dedS xs).length ≤ xs.length := by
  induction n with
  | zero => intro xs h; rw [List.eq_nil_of_length_eq_zero h]; exact ⟨List.Pairwise.nil, fun s => Iff.rfl, Nat.le_refl _⟩
  | succ n ih =>
    intro xs h
    have hne : xs ≠ [] := fun z => by rw [z] at h; cases h
    obtain ⟨h1, h2, h3⟩ := ih xs.dropLast (by rw [List.length_dropLast, h]; rfl)
    rw [← List.dropLast_concat_getLast hne]
    generalize xs.dropLast = ys at h1 h2 h3
    generalize xs.getLast hne = s
    rw [dedS_snoc]
    split
    · rename_i q
      refine ⟨h1, fun t => ?_, by rw [List.length_append]; omega⟩
      rw [h2 t, List.mem_append, List.mem_singleton]
      exact ⟨.inl, fun z => z.elim id fun z => z ▸ (h2 s).mp q⟩
    · rename_i q
      refine ⟨List.nodup_append.mpr ⟨h1, by simp, fun a ha b hb e => ?_⟩, fun t => ?_, by rw [List.length_append, List.length_append]; exact Nat.add_le_add_right h3 1⟩
      · rw [List.mem_singleton.mp hb] at e; exact q (e ▸ ha)
      · rw [List.mem_append, List.mem_append, h2 t]
theorem dedS_nd (xs : List Str) : (dedS xs).Nodup := (dedS_all _ xs rfl).1
theorem mem_dedS {xs : List Str} {s : Str} : s ∈ dedS xs ↔ s ∈ xs := (dedS_all _ xs rfl).2.1 s
theorem dedS_len (xs : List Str) : (dedS xs).length ≤ xs.length := (dedS_all _ xs rfl).2.2
/-- such a dict -/
def tabS (ss : List Str) : List (Key × D) := ss.map fun s => (.inr s, .bl true)
theorem tabS_put (ss : List Str) (s : Str) : putT (tabS ss) (.inr s) (.bl true) = tabS (if s ∈ ss then ss else ss ++ [s]) := by
  have ha : hasT (tabS ss) (Sum.inr s) = decide (s ∈ ss) := by
    unfold hasT tabS
    rw [List.any_map, Bool.eq_iff_iff]
    rw [List.any_eq_true, decide_eq_true_eq]
    constructor
    · rintro ⟨t, ht, h⟩
      have : t = s := Sum.inr.inj (of_decide_eq_true h)
      exact this ▸ ht
    · intro h
      exact ⟨s, h, decide_eq_true rfl⟩
  unfold putT
  rw [ha]
  by_cases q : s ∈ ss
  · rw [if_pos (decide_eq_true q), if_pos q]
    unfold tabS
    rw [List.map_map]
    refine List.map_congr_left fun t _ => ?_
    show newAt _ _ _ = _
    unfold newAt
    split <;> rfl
  · rw [if_neg (by simpa using q), if_neg q]
    unfold tabS
    rw [List.map_append]
    rfl
end
end DL

/-! DW: data of any depth: in, < (own work). -/
namespace DL
open PySem L2 PySem.W PySem.SeqAt
mutual
def pdD : D → PyData
  | .bl b => .bool b | .int i => .int i | .str s => .str s
  | .tup ds => .tuple (pdL ds) | .lst ds => .list (pdL ds)
  | _ => .none
def pdL : List D → List PyData
  | [] => []
  | d :: ds => pdD d :: pdL ds
end
section
variable {X : Cx} {pins : List (Addr × Obj)} {sg : L2.St} {H G : Hp} {s : Shared}
end
/-- values of α as data -/
structure Enc (α : Type) [DecidableEq α] [Datum α] (f : α → D) : Prop where
  pd : ∀ a, pdD (f a) = Datum.toD a
  pl : ∀ a, DL.pl 60 (f a) = true
section
variable {K : PySem.W.Frag} {B F F0 : Hp} {ro : Ro} {ka k1 k2 k3 kr : Cells} {ta : List (V × W)} {sg : L2.St} {H H' : Hp} {te tf tg : TE} {w x y z : W}
variable {α : Type} [DecidableEq α]
end

end DL

/-! DX: a dict comprehension stored in a local name on its own line (own work over the hand layer's dc_core). -/
namespace DL
open PySem PySem.Spec PyProof.Rows L2
/-- J holds in the block of a comprehension, wherever it is entered -/
abbrev Within (X : Cx) (scope : Scope) (J : Cx → Prop) : Prop := ∀ s H C cl fp, J (X.blk s H scope (compEnvC scope cl C X.env) fp)
section
variable {X : Cx} {i : Nat} {y : Str} {py pos spos : Pos} {kx vx tg iter : Expr} {ifs : List Expr} {scope : Scope} {own : List (Str × Nat)} {wi : TI} {g : TG} {tt : TT} {tk tv : TE}
/-- the finished dict goes into the local y; nothing is left of the block -/
theorem stored_local {pins : List (Addr × Obj)} {sg : L2.St} {De : Ends} (nd : X.N.Nodup) (at_ : X.N[i]? = some y) (loc : X.env.scope.names.lookup y = some .local) (L C : Addr) (s : Shared) (m : Str → Option Value) (H : Hp)
    (I : Inv X pins sg H s) (want : De.nx (sg.set i (some (.ref L))) H) (space : s.heap.Ns C m) (own : FpOk X pins H C) :
    compPost (model X.prog X.w) X.A X.xe (some (assign (.Name y py) X.env)) (fun _ s1 => SP X pins De .next s1) (.ref L) C (.ok .next) s := by
  refine wpAny_assign_Name (store_ok2 (v := V.ref L) I nd at_ (.inl loc) rfl ?_ (.inr loc))
  rintro s2 I2 ⟨a, same, which⟩
  have apart : C ≠ a := fun e => by
    subst e
    rcases which with e | e
    · exact own.2.1 e
    · exact own.2.2.2.2.1 _ _ e rfl
  exact ⟨m, space.sameBut same apart, fun h3 last => ⟨_, H, I2.turned (t' := s2.toks) (fun b o ne e => (last.2 b ne).trans e) own.1 own.2.1 own.2.2.2.1 own.2.2.2.2.1 own.2.2.2.2.2, want⟩⟩
theorem ps_setDc (calm : X.calm = true) (nd : X.N.Nodup) (at_ : X.N[i]? = some y) (loc : X.env.scope.names.lookup y = some .local) (swap : swapsWith (.DictComp kx vx [⟨tg, iter, ifs, 0⟩] scope pos) (some (.Name y py)) spos.line X.env = pure true)
    (src : PI X tg iter wi) (blk : BlkOk X.N X.env.scope scope own) (ptg : Within X scope fun Y => PG Y tg g) (ptt : Within X scope fun Y => PTs Y ifs tt) (pk : Within X scope fun Y => PE Y kx tk) (pv : Within X scope fun Y => PE Y vx tv)
    (fold : ∀ x, foldedSetIterable iter X.env x = pure x := by intro _; rfl) : PS X (.Assign [.Name y py] (.DictComp kx vx [⟨tg, iter, ifs, 0⟩] scope pos) spos) (tAsg (tDc wi g tt tk tv (own.map (·.2))) (gName i)) := ⟨fun pins s sg H De I want => by
  have made := dc_core (Q := fun x H1 => gName i x sg H1 De.nx) (pos := pos) (pos' := firstIterPos [⟨tg, iter, ifs, 0⟩] pos) (use := some (assign (.Name y py) X.env)) (Qf := fun _ s1 => SP X pins De .next s1) calm nd I src blk ptg ptt pk pv fold want
    fun L C s1 m H1 I1 q space f => stored_local nd at_ loc L C s1 m H1 I1 q space f
  rw [exec_Assign_Name_used _ _ _ _ swap]
  exact wpAny_bind (wpAny_standAt (wpAny_bind (wpAny_bind (wpAny_mono made (fun _ _ z => wpAny_pure (wpAny_pure z)) fun _ _ z => z))))⟩
end
end DL

/-! DY: != of two tuples whose items are equal, some by an own == (own work; the equality of the items is the hand layer's EqG). -/
namespace DL
open PySem L2 PySem.SeqAt
section
variable {prog : Program} {w : World}
end
section
variable {X : Cx} {n : Nat} {D : Eqv}
end
end DL
namespace DL
open PySem L2 PySem.W
section
variable {K : PySem.W.Frag} {B F F0 : Hp} {ro : Ro} {ka k1 k2 : Cells} {ta : List (V × W)} {sg : L2.St} {H H' : Hp} {te tf : TE} {C : Addr} {Cc : Ct}
theorem En.ext (e : En K B F0 ro ka ta sg H) (x : L2.Ext H H') : En K B F0 ro ka ta sg H' := by
  obtain ⟨F, g, q⟩ := e
  refine ⟨F, g, q.nz, q.fz.sub x, fun a o h => x _ _ (q.fr _ _ h), q.nd, fun p hp => ?_, q.ln, q.sl, q.tm⟩
  obtain ⟨h1, h2, h3⟩ := q.ce p hp
  refine ⟨h1, h2, ?_⟩
  obtain ⟨a, n⟩ := p
  cases n with
  | lst ds => obtain ⟨xs, e, r⟩ := h3; exact ⟨xs, x _ _ e, r⟩
  | dic ds => obtain ⟨xs, e, r⟩ := h3; exact ⟨xs, x _ _ e, r⟩
  | dit ds => obtain ⟨xs, e, r⟩ := h3; exact ⟨xs, x _ _ e, r⟩
  | ldic o xs ds => obtain ⟨e, r⟩ := h3; exact ⟨x _ _ e, r⟩
  | ins C ds => obtain ⟨dx, xs, e, r⟩ := h3; exact ⟨dx, xs, x _ _ e, r⟩
  | xd ds => obtain ⟨xs, e, r⟩ := h3; exact ⟨xs, x _ _ e, r⟩
  | din w ds => obtain ⟨xs, e, r⟩ := h3; exact ⟨xs, x _ _ e, r⟩
end
end DL

/-! DZ: evaluation by a relation (own work). -/
namespace DL
open PySem L2 PySem.W
/-- te ends with some value and cells of which P tells -/
def EvR (K : PySem.W.Frag) (te : TE) (ro : Ro) (ka : Cells) (P : W → Cells → Prop) : Prop := ∀ B F0 ta sg H (Q : VK), En K B F0 ro ka ta sg H → (∀ w k v H', P w k → En K B F0 ro k ((v, w) :: ta) sg H' → Q v H') → te sg H Q
def RvR (K : PySem.W.Frag) (r : R2) (ka : Cells) (x y : W) (P : W → Cells → Prop) : Prop := ∀ B F0 ro ta sg H u v (Q : VK), En K B F0 ro ka ta sg H → (u, x) ∈ ta → (v, y) ∈ ta → (∀ w k t H', P w k → En K B F0 ro k ((t, w) :: ta) sg H' → Q t H') → r u v H Q
section
variable {K : PySem.W.Frag} {B F F0 : Hp} {ro : Ro} {ka k1 k2 k3 kr : Cells} {ta : List (V × W)} {sg : L2.St} {H H' : Hp} {te tf tg : TE} {tr : TA} {w x y z : W} {n : Nd} {P P2 : W → Cells → Prop} {De : Ends} {u : TS} {E : XK} {r : R2}
theorem En.tmA (e : En K B F0 ro ka ta sg H) (a : Addr) : En K B F0 ro ka ((.ref a, .val (.adr a)) :: ta) sg H := e.push_imm fun _ => rfl
theorem EvR.imp (h : EvR K te ro ka P) (i : ∀ w k, P w k → P2 w k) : EvR K te ro ka P2 := fun B F0 ta sg H Q e q => h B F0 ta sg H Q e fun w k v H' p => q w k v H' (i w k p)
theorem RvR.imp (h : RvR K r ka x y P) (i : ∀ w k, P w k → P2 w k) : RvR K r ka x y P2 := fun B F0 ro ta sg H u v Q e h1 h2 q => h B F0 ro ta sg H u v Q e h1 h2 fun w k t H' p => q w k t H' (i w k p)
theorem EvR.op (h : EvR K te ro ka P) (h2 : ∀ w k, P w k → ∃ y k2, EvD K tf ro k y k2 ∧ RvR K r k2 w y P2) : EvR K (tOp r te tf) ro ka P2 := fun B F0 ta sg H Q e q =>
  h B F0 ta sg H _ e fun w k v H1 p e1 => by
    obtain ⟨y, k2, hb, hr⟩ := h2 w k p
    exact hb B F0 _ sg H1 _ e1 fun v2 H2 e2 => hr B F0 ro _ sg H2 v v2 Q e2 (List.mem_cons_of_mem _ List.mem_cons_self) List.mem_cons_self fun w3 k3 t H3 p3 e3 => q w3 k3 t H3 p3 (e3.held fun z hz => by
      rcases List.mem_cons.mp hz with rfl | hz
      · exact List.mem_cons_self
      · exact List.mem_cons_of_mem _ (List.mem_cons_of_mem _ (List.mem_cons_of_mem _ hz)))
theorem g_asgR {i : Nat} (h : EvR K te ro ka P) (k : ∀ w k1, P w k1 → Gp K B F0 ta De.nx (ro.set i (some w)) k1) : Gp K B F0 ta (tAsg te (gName i) De) ro ka := fun sg H e => h B F0 ta sg H _ e fun w k1 v H1 p e1 => k w k1 p _ _ (e1.set i)
theorem EvR.d (h : EvR K te ro ka P) (hP : ∀ w' k, P w' k → w' = w ∧ k = k1) : EvD K te ro ka w k1 := fun B F0 ta sg H Q e q => h B F0 ta sg H Q e fun w' k v H' p e' => by
  obtain ⟨rfl, rfl⟩ := hP w' k p
  exact q v H' e'
theorem inV_strs (s : Str) : ∀ ss : List Str, inV (.str s) (ss.map V.str) = decide (s ∈ ss)
  | [] => rfl
  | t :: ss => by
    show ((t == s) || inV (.str s) (ss.map V.str)) = _
    rw [inV_strs s ss, Bool.eq_iff_iff, Bool.or_eq_true, decide_eq_true_eq, decide_eq_true_eq, List.mem_cons, beq_iff_eq]
    exact ⟨fun h => h.elim (fun q => .inl q.symm) .inr, fun h => h.elim (fun q => .inl q.symm) .inr⟩
theorem all_flat : ∀ ss : List Str, (ss.map V.str).all flatV = true
  | [] => rfl
  | t :: ss => by
    rw [List.map_cons, List.all_cons, all_flat ss]
    rfl
theorem rv_inL {neg tt b : Bool} {s : Str} {ss : List Str} (l : Lk ka y tt (stD ss) b) : RvD K (rIn K neg) ka (.val (.str s)) y (.val (.bl (if neg then !decide (s ∈ ss) else decide (s ∈ ss)))) := fun B F0 ro ta sg H u v Q e h1 h2 q => by
  obtain ⟨F, g, ef⟩ := id e
  have hu := e.tm_str h1
  subst hu
  obtain ⟨a, xs, rfl, s1, r1⟩ := l.get ef (ef.tm _ h2)
  have ex := rpl_strs r1
  subst ex
  refine ⟨a, ss.map V.str, rfl, s1.sq, rfl, all_flat ss, ?_⟩
  rw [inV_strs]
  exact q _ _ (e.push_imm fun _ => rfl)
theorem ev_inL {tt b : Bool} {s : Str} {ss : List Str} (h : EvD K te ro ka (.val (.str s)) k1) (h2 : EvD K tf ro k1 y k2) (l : Lk k2 y tt (stD ss) b) : EvD K (tOp (rInU K) te tf) ro ka (.val (.bl (decide (s ∈ ss)))) k2 := ev_op h h2 (rvd_r (rv_inL (neg := false) l))
theorem ev_niL {tt b : Bool} {s : Str} {ss : List Str} (h : EvD K te ro ka (.val (.str s)) k1) (h2 : EvD K tf ro k1 y k2) (l : Lk k2 y tt (stD ss) b) : EvD K (tOp (rNiU K) te tf) ro ka (.val (.bl (!decide (s ∈ ss)))) k2 := ev_op h h2 (rvd_r (rv_inL (neg := true) l))
theorem ei_strs {ss : List Str} (h : EvD K te ro ka (.val (.lst (stD ss))) k1) : EvI K (iSeq K te) ro ka (ss.map fun s => W.val (.str s)) (fun _ => True) k1 := by
  have := ei_seq h .vl
  unfold stD at this
  rw [List.map_map] at this
  exact this

/-! ### targets -/
/-- the target g takes a value of w: the slots behind it -/
def AsT (K : PySem.W.Frag) (g : TG) (w : W) (ro ro' : Ro) : Prop := ∀ B F0 ka ta sg H v (Q : L2.St → Hp → Prop), En K B F0 ro ka ta sg H → (v, w) ∈ ta → (∀ sg', En K B F0 ro' ka ta sg' H → Q sg' H) → g v sg H Q
def AsL (K : PySem.W.Frag) (t : TGs) (ws : List W) (ro ro' : Ro) : Prop := ∀ B F0 ka ta sg H vs (Q : L2.St → Hp → Prop), En K B F0 ro ka ta sg H → vs.length = ws.length → (∀ p ∈ vs.zip ws, p ∈ ta) → (∀ sg', En K B F0 ro' ka ta sg' H → Q sg' H) → t vs sg H Q
variable {ro' ro2 : Ro} {g : TG} {t : TGs} {ws : List W}
theorem at_n {i : Nat} : AsT K (gName i) w ro (ro.set i (some w)) := fun B F0 ka ta sg H v Q ⟨F, g, e⟩ h q => q _ ⟨F, g, e.set (e.tm _ h) i⟩
theorem al_nil : AsL K gNil [] ro ro := fun B F0 ka ta sg H vs Q e hl h q => ⟨List.eq_nil_of_length_eq_zero hl, q _ e⟩
theorem al_cons (h1 : AsT K g w ro ro2) (h2 : AsL K t ws ro2 ro') : AsL K (gCons g t) (w :: ws) ro ro' := fun B F0 ka ta sg H vs Q e hl h q => by
  cases vs with
  | nil => cases hl
  | cons v r => exact ⟨v, r, rfl, h1 B F0 ka ta sg H v _ e (h _ List.mem_cons_self) fun sg1 e1 => h2 B F0 ka ta sg1 H r Q e1 (by simpa using hl) (fun p hp => h p (List.mem_cons_of_mem _ hp)) q⟩
theorem at_tup {ds : List D} {m : Nat} (hm : ds.length = m) (h : AsL K t (ds.map W.val) ro ro') : AsT K (gTup K m t) (.val (.tup ds)) ro ro' := fun B F0 ka ta sg H v Q e hv q => by
  obtain ⟨F, gr, ef⟩ := id e
  obtain ⟨a, xs, rfl, s1, r1⟩ := Lk.vt.get ef (ef.tm _ hv)
  refine ⟨a, xs, rfl, s1, by rw [rpl_len r1, hm], h B F0 ka (xs.zip (ds.map W.val) ++ ta) sg H xs Q ?_ (by rw [List.length_map, rpl_len r1]) (fun p hp => List.mem_append_left _ hp) fun sg' e' => q sg' (e'.held fun p hp => List.mem_append_right _ hp)⟩
  refine ⟨F, gr, ⟨ef.nz, ef.fz, ef.fr, ef.nd, ef.ce, ef.ln, ef.sl, fun p hp => ?_⟩⟩
  rcases List.mem_append.mp hp with hp | hp
  · have : ∀ (ds : List D) (xs : List V), RpL K F ds xs → ∀ p ∈ xs.zip (ds.map W.val), WOk K B F p.1 p.2 := by
      intro ds
      induction ds with
      | nil => intro xs h p hp; rw [show xs = [] from h] at hp; simp at hp
      | cons d ds ih =>
        intro xs h p hp
        obtain ⟨x, ys, rfl, h1, h2⟩ := h
        rcases List.mem_cons.mp hp with rfl | hp
        · exact h1
        · exact ih ys h2 p hp
    exact this ds xs r1 p hp
  · exact ef.tm p hp
theorem at_t2 {d1 d2 : D} {i j : Nat} : AsT K (gTup K 2 (gCons (gName i) (gCons (gName j) gNil))) (.val (.tup [d1, d2])) ro ((ro.set i (some (.val d1))).set j (some (.val d2))) := at_tup rfl (al_cons at_n (al_cons at_n al_nil))
theorem g_asgT (h : EvD K te ro ka w k1) (a : AsT K g w ro ro') (k : Gp K B F0 ta De.nx ro' k1) : Gp K B F0 ta (tAsg te g De) ro ka := fun sg H e => h B F0 ta sg H _ e fun v H1 e1 => a B F0 k1 _ sg H1 v _ e1 List.mem_cons_self fun sg' e' => k _ _ e'.pop
theorem q_asgT (h : EvD K te ro ka w k1) (a : AsT K g w ro ro') (k : Gp K B F0 ta (u De) ro' k1) : Gp K B F0 ta (tSeq (tAsg te g) u De) ro ka := g_asgT (De := { De with nx := u De }) h a k
/-- a loop whose target is of any form -/
theorem g_forT {wi : TI} {C : Cells → Prop} {tb : TS} (h : EvI K wi ro ka ws C k1) (Inv : Nat → Ro → Cells → Prop) (h0 : Inv 0 ro k1) (hC : ∀ i ro2 ka2, Inv i ro2 ka2 → C ka2)
    (hs : ∀ i w ro2 ka2 ta', ws[i]? = some w → Inv i ro2 ka2 → ∃ ro3, AsT K g w ro2 ro3 ∧ Gp K B F0 ta' (tb { De with nx := Jp K B F0 ta' (Inv (i + 1)), ct := Jp K B F0 ta' (Inv (i + 1)), bk := De.nx }) ro3 ka2)
    (hd : ∀ ro2 ka2 ta', Inv ws.length ro2 ka2 → (∀ p ∈ ta, p ∈ ta') → Gp K B F0 ta' De.nx ro2 ka2) : Gp K B F0 ta (tFor wi g tb De) ro ka :=
  g_for h Inv h0 hC (fun i w ro2 ka2 hw inv ta' sg H e x ex => by
    obtain ⟨ro3, a, gp⟩ := hs i w ro2 ka2 ta' hw inv
    exact a B F0 ka2 _ sg H x _ ex List.mem_cons_self fun sg' e' => gp _ _ e'.pop) hd
theorem q_forT {wi : TI} {C : Cells → Prop} {tb : TS} (h : EvI K wi ro ka ws C k1) (Inv : Nat → Ro → Cells → Prop) (h0 : Inv 0 ro k1) (hC : ∀ i ro2 ka2, Inv i ro2 ka2 → C ka2)
    (hs : ∀ i w ro2 ka2 ta', ws[i]? = some w → Inv i ro2 ka2 → ∃ ro3, AsT K g w ro2 ro3 ∧ Gp K B F0 ta' (tb { De with nx := Jp K B F0 ta' (Inv (i + 1)), ct := Jp K B F0 ta' (Inv (i + 1)), bk := u De }) ro3 ka2)
    (hd : ∀ ro2 ka2 ta', Inv ws.length ro2 ka2 → (∀ p ∈ ta, p ∈ ta') → Gp K B F0 ta' (u De) ro2 ka2) : Gp K B F0 ta (tSeq (tFor wi g tb) u De) ro ka := g_forT (De := { De with nx := u De }) h Inv h0 hC hs hd
end
end DL

/-! ER: a tuple read backwards (own work). -/
namespace DL
open PySem L2 PySem.W PyProof.Rows

section
variable {prog : Program} {w : World} {A : Around} {E : Value → Shared → Prop} {s : Shared}
end
section
variable {X : Cx} {e : Expr} {te : TE} {n : Nat} {pa pb pc pd : Pos}
end
end DL

/-! EA: dicts read and written, walked while frozen, objects frozen (own work). -/
namespace DL
open PySem L2 PySem.W

/-- w is a dict of ds; b: viewed -/
inductive Dk (ka : Cells) : W → List (Key × D) → Bool → Prop where
  | v {ds : List (Key × D)} : Dk ka (.val (.dic ds)) ds false
  | w {ds : List (Key × D)} : Dk ka (.vw (.dic ds)) ds true
  | ce {a : Addr} {ds : List (Key × D)} (j : Nat) (h : ka[j]? = some (a, .dic ds)) : Dk ka (.val (.adr a)) ds false
  | cl {a : Addr} {o : Obj} {xs : List (Key × V)} {ds : List (Key × D)} (j : Nat) (h : ka[j]? = some (a, .ldic o xs ds)) : Dk ka (.val (.adr a)) ds false
section
variable {K : PySem.W.Frag} {B B' F F' F0 : Hp} {ro ro' : Ro} {ka k1 k2 k3 kr : Cells} {ta : List (V × W)} {sg sg' : L2.St} {H H' : Hp} {te tf tg td ty tk tv : TE} {tr : TA} {tt tu : TT} {w x y z : W} {n m : Nd} {C dx a : Addr} {b : Bool} {P : L2.St → Hp → Prop} {De : Ends} {t u : TS} {E : XK} {ds : List (Key × D)}
theorem Dk.get {v : V} (l : Dk ka w ds b) (e : EnF K B F ro ka ta sg H) (h : WOk K B F v w) : ∃ a xs, v = .ref a ∧ Rd H a (.dK xs) ∧ RpK K (if b then uni B F else F) ds xs := by
  cases l with
  | v =>
    obtain ⟨a, xs, rfl, h1, h2⟩ := h
    exact ⟨a, xs, rfl, e.fz.rd e.nz h1, h2⟩
  | w =>
    obtain ⟨a, xs, rfl, h1, h2⟩ := h
    exact ⟨a, xs, rfl, (uni_exz e.fz e.fr).rd (uni_nz e.nz) h1, h2⟩
  | ce j hj =>
    obtain rfl : v = .ref _ := h
    obtain ⟨_, _, xs, h1, h2⟩ := e.ce _ (List.mem_of_getElem? hj)
    exact ⟨_, xs, rfl, .inl h1, h2⟩
  | cl j hj =>
    obtain rfl : v = .ref _ := h
    obtain ⟨_, _, h1, h2⟩ := e.ce _ (List.mem_of_getElem? hj)
    exact ⟨_, _, rfl, .inr ⟨_, h1⟩, h2⟩
theorem En.dk {v : V} (l : Dk ka w ds b) (e : En K B F0 ro ka ta sg H) (h : (v, w) ∈ ta) : ∃ F a xs, Gr B F0 F ∧ EnF K B F ro ka ta sg H ∧ v = .ref a ∧ Rd H a (.dK xs) ∧ RpK K (if b then uni B F else F) ds xs := by
  obtain ⟨F, g, ef⟩ := e
  obtain ⟨a, xs, h1, h2, h3⟩ := l.get ef (ef.tm _ h)
  exact ⟨F, a, xs, g, ef, h1, h2, h3⟩
/-- {text: v} -/
theorem evn_disp1 {s : Str} {d : D} (hk : EvD K tk ro ka (.val (.str s)) k1) (hv : EvD K tv ro k1 (.val d) k2) : EvN K (tDisp [(tk, tv)]) ro ka (.dic [(.inr s, d)]) k2 := fun B F0 ta sg H Q e q => fun p hp => by
  obtain ⟨F, g, e⟩ := e
  have e1 : En K B F0 ro (ka ++ [(p, .dic [])]) ta sg (upd H p (.dK [])) := ⟨F, g, e.cell (o := .dK []) hp (n := .dic []) ⟨[], upd_same, rfl⟩⟩
  refine hk.fr [(p, .dic [])] B F0 ta sg _ _ e1 fun x H1 e2 => ?_
  have hx := e2.tm_str (v := x) (i := s) List.mem_cons_self
  subst hx
  refine hv.fr [(p, .dic [])] B F0 _ sg _ _ e2 fun y H2 e3 => ?_
  have hj : (k2 ++ [(p, Nd.dic [])])[k2.length]? = some (p, Nd.dic []) := by simp
  obtain ⟨F2, g2, ef, xs, hx2, rx⟩ := e3.cellAt hj
  obtain rfl : xs = [] := rx
  have hvd := ef.tm (y, .val d) List.mem_cons_self
  refine ⟨hx2, [(.inr s, y)], rfl, (by show 1 ≤ 15; decide), q p _ ⟨F2, g2, ?_⟩⟩
  have e4 := ef.write (o := .dK [(.inr s, y)]) (n' := .dic [(.inr s, d)]) hj ⟨_, upd_same, ⟨y, [], rfl, hvd, rfl⟩⟩
  rw [List.set_append_right _ _ (Nat.le_refl _), Nat.sub_self] at e4
  exact e4.held fun p hp => List.mem_cons_of_mem _ (List.mem_cons_of_mem _ hp)

end
end DL

/-! EB: loops and comprehensions over frozen dicts (own work). -/
namespace DL
open PySem L2 PySem.W
section
variable {K : PySem.W.Frag} {B F F0 : Hp} {ro : Ro} {ka k1 k2 k3 kr : Cells} {ta : List (V × W)} {sg : L2.St} {H H' : Hp} {te tf tg tk tv : TE} {tr : TA} {tt tu : TT} {w x y z : W} {n m : Nd} {C dx a : Addr} {b : Bool} {P : L2.St → Hp → Prop} {De : Ends} {t u : TS} {E : XK}
end
end DL

/-! EC: defaults, objects with cells in their fields, more of dicts (own work). -/
namespace DL
open PySem L2 PySem.W

/-! ### defaults -/
/-- the def at f keeps C, its defaults written out; dvs: its defaults -/
def FnD (P : Program) (w : World) (K : PySem.W.Frag) (mg : Str → Option Value) (base : Heap) (k : Nat) (f : Addr) (ps : List Str) (dvs : List V) (C : Ct) : Prop :=
  ∃ fd, FnOk P w K mg base (L2.CX P w) k f fd ps (spC K C) ∧ ∃ ds, Vals dvs ds ∧ Binds K fd ps ds
section
variable {P : Program} {w : World} {K : PySem.W.Frag} {mg : Str → Option Value} {base : Heap} {k j : Nat} {f : Addr} {ps : List Str} {dvs : List V} {C : Ct}
noncomputable def FnD.fd (F : FnD P w K mg base k f ps dvs C) : FuncData := Classical.choose F
theorem FnD.ok (F : FnD P w K mg base k f ps dvs C) : FnOk P w K mg base (L2.CX P w) k f F.fd ps (spC K C) := (Classical.choose_spec F).1
noncomputable def FnD.ds (F : FnD P w K mg base k f ps dvs C) : List Value := Classical.choose (Classical.choose_spec F).2
theorem FnD.bn (F : FnD P w K mg base k f ps dvs C) : Binds K F.fd ps F.ds := (Classical.choose_spec (Classical.choose_spec F).2).2
theorem FnD.up (F : FnD P w K mg base j f ps dvs C) (h : j ≤ k) : FnD P w K mg base k f ps dvs C := let ⟨fd, a, b⟩ := F; ⟨fd, a.mono h, b⟩
end
/-- what stands for the defaults -/
def DvOk (K : PySem.W.Frag) (dvs : List V) (wd : List W) : Prop := dvs.length = wd.length ∧ ∀ B F p, p ∈ dvs.zip wd → WOk K B F p.1 p.2
section
variable {K : PySem.W.Frag} {B B' F F' F0 : Hp} {ro ro' : Ro} {ka k1 k2 k3 kr : Cells} {ta : List (V × W)} {sg sg' : L2.St} {H H' : Hp} {te tf tg td ty tk tv : TE} {tr : TA} {tt tu : TT} {w x y z : W} {n m : Nd} {C dx a o d : Addr} {b : Bool} {P : W → Cells → Prop} {De : Ends} {u : TS}
theorem En.more (e : En K B F0 ro ka ta sg H) {dvs : List V} {wd : List W} (h : DvOk K dvs wd) : En K B F0 ro ka (dvs.zip wd ++ ta) sg H := by
  obtain ⟨F, g, e⟩ := e
  refine ⟨F, g, { e with tm := fun p hp => ?_ }⟩
  rcases List.mem_append.mp hp with q | q
  · exact h.2 B F p q
  · exact e.tm p q
end

section
variable {K : PySem.W.Frag} {B B' F F' F0 : Hp} {ro ro' : Ro} {ka k1 k2 k3 kr : Cells} {ta : List (V × W)} {sg sg' : L2.St} {H H' : Hp} {te tf tg td ty tk tv : TE} {tr : TA} {tt tu : TT} {w x y z : W} {n m : Nd} {C dx a o d : Addr} {b : Bool} {P : L2.St → Hp → Prop} {De : Ends} {u : TS}
end
end DL
namespace DL
open PySem L2 PySem.W
section
variable {P : Program} {w : World} {K : PySem.W.Frag} {mg : Str → Option Value} {base : Heap} {f : Addr} {fd : FuncData} {x qual : Str} {params : Arguments} {body : List Stmt} {scope : Scope} {ps N : List Str} {k j : Nat} {C : Ct} {dvs : List V}
end
end DL
namespace DL
open PySem L2 PySem.W
theorem hu1 {k : Nat} {A : Around} (r : Room k A) : A.units + 1 < cLine := by have := r.units; omega
end DL

namespace DL
open PySem L2 PySem.W
section
variable {K : PySem.W.Frag} {B F F0 : Hp} {ro : Ro} {ka k1 k2 : Cells} {ta : List (V × W)} {sg : L2.St} {H : Hp} {te tf : TE} {w : W} {n : Nd}
/-! ### is None -/
def isNonD : D → Bool
  | .non => true
  | _ => false
theorem isNonD_of {F : Hp} {d : D} {v : V} (h : Rp K F d v) : decide (v = .non) = isNonD d := by
  cases d with
  | non => rw [show v = .non from h]; rfl
  | bl b => rw [show v = .bl b from h]; rfl
  | int i => rw [show v = .int i from h]; rfl
  | str s => rw [show v = .str s from h]; rfl
  | ty n => rw [show v = .ty n from h]; rfl
  | adr a => rw [show v = .ref a from h]; rfl
  | tup ds => obtain ⟨a, _, rfl, _⟩ := h; rfl
  | lst ds => obtain ⟨a, _, rfl, _⟩ := h; rfl
  | dic ds => obtain ⟨a, _, rfl, _⟩ := h; rfl
  | dit ds => obtain ⟨a, _, rfl, _⟩ := h; rfl
  | din w ds => obtain ⟨a, _, rfl, _⟩ := h; rfl
  | ins C fs => obtain ⟨a, _, _, rfl, _⟩ := h; rfl
theorem En.isN {d : D} (e : En K B F0 ro ka ta sg H) {v : V} (h : (v, w) ∈ ta) (hw : w = .val d ∨ w = .vw d) : decide (v = .non) = isNonD d := by
  obtain ⟨F, _, e⟩ := e
  have := e.tm _ h
  rcases hw with rfl | rfl
  · exact isNonD_of (F := F) this
  · exact isNonD_of (F := uni B F) this
theorem ev_isN {d : D} (h : EvD K te ro ka w k1) (hw : w = .val d ∨ w = .vw d := by exact .inl rfl) : EvD K (tOp rIsN te (tC .non)) ro ka (.val (.bl (isNonD d))) k1 := fun B F0 ta sg H Q e q => h B F0 ta sg H _ e fun v H1 e1 =>
  ⟨rfl, by rw [e1.isN List.mem_cons_self hw]; exact q _ _ (e1.pop.push_imm fun _ => rfl)⟩
end
end DL

namespace DL
open PySem L2 PySem.W
theorem sqf_stD (b : Bool) (ss : List Str) : SqF b (stD ss) := .inr (List.all_eq_true.mpr fun d hd => by
  obtain ⟨s, _, rfl⟩ := List.mem_map.mp hd
  rfl)
end DL
namespace DL
open PySem L2 PySem.W
section
variable {K : PySem.W.Frag} {ro : Ro} {ka k1 k2 k3 : Cells} {te : TE} {tr : TA} {w : W} {E : XK}
end
end DL
namespace DL
open PySem L2 PySem.W
/-! ### tables with text keys -/
section
variable {β : Type} {f : β → D}
end
end DL
namespace DL
open PySem L2 PySem.W
section
variable {K : PySem.W.Frag} {ro : Ro} {ka k1 : Cells} {te tf : TE} {P : W → Cells → Prop} {R : Nd → Cells → Prop}
end
end DL
namespace DL
open PySem L2 PySem.W
section
variable {K : PySem.W.Frag} {B F0 : Hp} {ro : Ro} {ka k1 : Cells} {ta : List (V × W)} {te : TE} {w : W} {b : Bool} {R : Nd → Cells → Prop} {De : Ends} {u : TS}
end
end DL
namespace DL
open PySem L2 PySem.W
section
variable {K : PySem.W.Frag} {ro : Ro} {ka k1 k2 : Cells} {ty td : TE} {P : W → Cells → Prop}
end
end DL
namespace DL
open PySem L2 PySem.W
section
variable {K : PySem.W.Frag} {ro : Ro} {ka k1 : Cells} {te tf : TE} {n : Nd} {y : W} {E : XK}
end
end DL

/-! ED: d.get(k) (own work). -/
namespace DL
open PySem L2 PySem.W
section
variable {K : PySem.W.Frag} {ro : Ro} {ka k1 k2 : Cells} {td ty : TE} {w : W} {b : Bool}
end
end DL

/-! EE: try with any number of except clauses, each with or without a name (own work). -/
namespace DL
open PySem L2 PySem.W PyProof.Rows

/-- the exception at a has come down in X; but for it the state is as σ, H tell -/
def Down (X : Cx) (pins : List (Addr × Obj)) (a : Addr) (cls : Value) (d : Option Addr) (σ : L2.St) (H : Hp) (s : Shared) : Prop :=
  ∃ (B : Heap) (s0 : Shared), L2.Inv X pins σ H s0 ∧ (∀ b o, s0.heap.get? b = some o → b ∉ frs X.stack → B.get? b = some o) ∧ s0.heap.UpToSlots s.heap ∧
    HandSPX.FlyingZ B (X.env :: X.outer) a (Zc cls d) s.heap ∧ H a = none ∧ s.os = s0.os ∧ AllBare s.gens
section
variable {X : Cx} {pins : List (Addr × Obj)} {a : Addr} {cls : Value} {d : Option Addr} {σ : L2.St} {H : Hp} {s : Shared}
theorem Down.inv (z : Down X pins a cls d σ H s) : L2.Inv X pins σ H s :=
  let ⟨_, _, I, nb, up, fl, _, os, ag⟩ := z
  I.landed nb fl.1 up os ag
theorem Down.obj (z : Down X pins a cls d σ H s) : ∃ (oe : Obj) (vs : Array Value), s.heap.get? a = some oe ∧ Zc cls d oe ∧ oe.data = .fields vs :=
  let ⟨_, _, _, _, _, fl, _⟩ := z
  let ⟨oe, vs, h1, h2, h3⟩ := fl.there
  ⟨oe, vs, h1, h2, h3⟩
/-- no frame's slots stand there -/
theorem Down.off (z : Down X pins a cls d σ H s) : a ∉ frs (X.env :: X.outer) := fun hm => by
  obtain ⟨oe, vs, h1, _, h3⟩ := z.obj
  obtain ⟨_, _, _, _, _, fl, _⟩ := z
  obtain ⟨_, o, h4, h5⟩ := fl.2.2.1.mem hm
  rw [h1] at h4
  cases h4
  exact h5 _ h3
/-- the state that an except suite finds -/
theorem Down.within (z : Down X pins a cls d σ H s) (hf : X.env.frame = some X.env.locals) : ∃ oe vs, oe.data = .fields vs ∧ Zc cls d oe ∧ s.heap.get? a = some oe ∧ L2.Inv (X.suite a ((a, oe) :: (X.pn ++ pins))) [] σ H s := by
  obtain ⟨oe, vs, h1, h2, h3⟩ := z.obj
  have off := z.off
  have na : H a = none := let ⟨_, _, _, _, _, _, na, _⟩ := z; na
  refine ⟨oe, vs, h3, h2, h1, z.inv.suite h1 h3 na (fun e => off ?_) fun hm => off ?_⟩
  · exact List.mem_filterMap.mpr ⟨X.env, List.mem_cons_self, by rw [hf, e]⟩
  · obtain ⟨e, he, q⟩ := List.mem_filterMap.mp hm
    exact List.mem_filterMap.mpr ⟨e, List.mem_cons_of_mem _ he, q⟩
theorem Down.again {M : Model} {A : Around} {E : Value → Shared → Prop} {Q : Unit → Shared → Prop} (z : Down X pins a cls d σ H s) (k : ∀ s', Down X pins a cls d σ H s' → Q () s') : wpAny M A (setFlight (.ref a) none) Q E s := by
  obtain ⟨B, s0, I, nb, up, fl, na, os, ag⟩ := z
  exact HandSPX.lands_againZ fl fun h' fl' up' => k _ ⟨B, s0, I, nb, up.trans up', fl', na, os, ag⟩
/-- no clause takes it -/
theorem Down.pass {W : WX} {Q : Flow → Shared → Prop} (z : Down X pins a cls d σ H s) (hs : X.stack = X.env :: X.outer) (hf : X.env.frame = some X.env.locals) (tk : Takes X W) (w : W cls d σ H) : wpAny (model X.prog X.w) X.A (handleBy (.ref a) X.env []) Q X.xe s := by
  obtain ⟨B, s0, I, nb, up, fl, na, os, ag⟩ := z
  obtain ⟨oe, vs, T, oT, ts, h1, h2, h3, h4, _⟩ := id fl.2.2.2
  have out : wpAny (model X.prog X.w) X.A (setFlight (.ref a) X.env.frame) (fun _ s4 => wpAny (model X.prog X.w) X.A (throw (.ref a) : Sem Flow) Q X.xe s4) X.xe s := by
    rw [hf]
    exact HandSPX.setFlight_upZ fl fun h' held up' => wpAny_throw (tk _ _ ⟨a, B, s0, pins, σ, H, cls, d, rfl, I, nb, up.trans up', .inr (.inr (hs ▸ held)), na, os, ag, w⟩)
  apply wpAny_handleBy_nil
  unfold PySem.passOn
  refine wpAny_bind (wpAny_field h1 h3 h4 ?_)
  have ne : ¬ (Value.ref T == Value.none) = true := by simp
  rw [if_neg ne]
  first
    | exact wpAny_bind (wpAny_pure (wpAny_bind out))
    | exact wpAny_bind out
end
/-- a clause: its class, the slot of its name, its suite -/
abbrev Cla := Value × Option Nat × (Addr → Value → Option Addr → TS)
/-- where a suite ends: its name is gone -/
def goneE (D : Ends) : Option Nat → Ends
  | none => D
  | some i => { nx := fun σ H => D.nx (σ.set i none) H, rt := D.rt, bk := fun σ H => D.bk (σ.set i none) H, ct := fun σ H => D.ct (σ.set i none) H }
def nameS (σ : L2.St) (a : Addr) : Option Nat → L2.St
  | none => σ
  | some i => σ.set i (some (.ref a))
/-- what one clause wishes: that its class tells whether it takes the exception; if so its suite's wish, else W -/
def oneCla (K : PySem.W.Frag) (D : Ends) (c : Cla) (W : WX) : WX := fun cls d σ H =>
  (exmOne K cls c.1 = some true ∧ ∀ a, H a = none → c.2.2 a cls d (goneE D c.2.1) (nameS σ a c.2.1) H) ∨ (exmOne K cls c.1 = some false ∧ W cls d σ H)
/-- these clauses deal with whatever W lets come down -/
def Deals (X : Cx) (D : Ends) (hds : List ExceptHandler) (W : WX) : Prop := ∀ (pins : List (Addr × Obj)) (a : Addr) (cls : Value) (d : Option Addr) (σ : L2.St) (H : Hp) (s : Shared),
  Down X pins a cls d σ H s → W cls d σ H → wpAny (model X.prog X.w) X.A (handleBy (.ref a) X.env hds) (SP X pins D) X.xe s
/-- a suite keeps its wish -/
def SuiteOk (X : Cx) (b0 : Stmt) (suite : List Stmt) (ts : Addr → Value → Option Addr → TS) : Prop :=
  ∀ (a : Addr) (oe : Obj) (cls : Value) (d : Option Addr) (pn : List (Addr × Obj)), Zc cls d oe → (∃ vs, oe.data = .fields vs) → PSs (X.suite a ((a, oe) :: pn)) (b0 :: suite) (ts a cls d)
section
variable {X : Cx} {pins : List (Addr × Obj)} {a : Addr} {cls : Value} {d : Option Addr} {σ : L2.St} {H : Hp} {s : Shared} {D : Ends} {Wout W : WX} {f : Flow}
theorem Deals.nil (hs : X.stack = X.env :: X.outer) (hf : X.env.frame = some X.env.locals) (tk : Takes X Wout) : Deals X D [] Wout := fun _ _ _ _ _ _ _ z w => z.pass hs hf tk w
/-- the end of a suite without a name, seen from outside -/
theorem SP.outward {q0 : List (Addr × Obj)} {X' : Cx} (e : SP X' q0 D f s) (k : ∀ σ1 H1, L2.Inv X' q0 σ1 H1 s → L2.Inv X pins σ1 H1 s) : SP X pins D f s := by
  rcases f with _ | _ | _ | u
  · obtain ⟨σ1, H1, J, y⟩ := e
    exact ⟨σ1, H1, k _ _ J, y⟩
  · obtain ⟨σ1, H1, J, y⟩ := e
    exact ⟨σ1, H1, k _ _ J, y⟩
  · obtain ⟨σ1, H1, J, y⟩ := e
    exact ⟨σ1, H1, k _ _ J, y⟩
  · obtain ⟨v, σ1, H1, J, y⟩ := e
    exact ⟨v, σ1, H1, k _ _ J, y⟩
/-- a clause's class, looked up where the suite will stand -/
theorem Down.class_read (z : Down X pins a cls d σ H s) (hf : X.env.frame = some X.env.locals) {x : Str} {c : Value} {p : Pos} (hc : Names X x c) {Q : Value → Shared → Prop} {E : Value → Shared → Prop} (k : Q c s) :
    wpAny (model X.prog X.w) (X.A.mark (some (.ref a))) (eval (.Name x p) X.env) Q E s := by
  obtain ⟨oe, vs, _, _, _, S⟩ := z.within hf
  obtain ⟨g, nd, m | ⟨m, v, nn⟩⟩ := hc
  · exact ld_glob (X := X.suite a ((a, oe) :: (X.pn ++ pins))) S g m k nd
  · exact ld_blt (X := X.suite a ((a, oe) :: (X.pn ++ pins))) S g m v k nn nd
/-- does the class at c take it? -/
theorem Down.asked (z : Down X pins a cls d σ H s) {c : Value} {b : Bool} (h : exmOne X.K cls c = some b) : PySem.W.Looks (model X.prog X.w) s.heap (excMatches (.ref a) c) b :=
  PySem.W.exm_one z.inv.kIn (fun A Q E s' kp q => by
    obtain ⟨oe, vs, at_, zc, _⟩ := z.obj
    exact wpAny_typeOf_ref (kp _ _ at_) (zc.1.symm ▸ q)) h
theorem Deals.plain (hf : X.env.frame = some X.env.locals) {x : Str} {c : Value} {ts : Addr → Value → Option Addr → TS} {b0 : Stmt} {suite : List Stmt} {p q : Pos} {hds : List ExceptHandler} (hc : Names X x c) (ok : SuiteOk X b0 suite ts) (rest : Deals X D hds W) :
    Deals X D (.ExceptHandler (some (.Name x p)) none (b0 :: suite) q :: hds) (oneCla X.K D (c, none, ts) W) := fun pins a cls d σ H s z w => by
  refine wpAny_handleBy_cons (codeAny_handlers_test (z.class_read hf hc ?_)) (fun e => by cases e)
  rcases w with ⟨hb, w⟩ | ⟨hb, w⟩ <;> refine (z.asked hb).here ?_
  · refine codeAny_handlers_suite (z.again fun s1 z1 => ?_)
    obtain ⟨oe, vs, dat, zc, _, S⟩ := z1.within hf
    have na : H a = none := z.elim fun _ r => r.elim fun _ r => r.2.2.2.2.1
    exact wpAny_mono ((ok a oe cls d (X.pn ++ pins) zc ⟨_, dat⟩).run [] s1 σ H D S (w a na)) (fun g s2 e => SP.outward e fun _ _ J => J.unsuite z.inv.ok) fun _ _ z => z.elim
  · exact rest pins a cls d σ H s z w
end
section
variable {X : Cx} {body : List Stmt} {h0 : ExceptHandler} {hds : List ExceptHandler} {l : List Cla} {pos : Pos} {tb : WX → TS} {Wout : WX}
end
end DL

/-! EF: what several clauses do with an exception, by data (own work). -/
namespace DL
open PySem L2 PySem.W
/-- of the clauses l the one with oi, ts takes an exception of C1 -/
inductive Hit (K : PySem.W.Frag) (C1 : Addr) : List Cla → Option Nat → (Addr → Value → Option Addr → TS) → Prop
  | here {c : Value} {oi : Option Nat} {ts : Addr → Value → Option Addr → TS} {r : List Cla} (h : exmOne K (.ref C1) c = some true) : Hit K C1 ((c, oi, ts) :: r) oi ts
  | next {c : Value} {oi oj : Option Nat} {ts us : Addr → Value → Option Addr → TS} {r : List Cla} (h : exmOne K (.ref C1) c = some false) (k : Hit K C1 r oi ts) : Hit K C1 ((c, oj, us) :: r) oi ts
section
variable {K : PySem.W.Frag} {B F0 : Hp} {ro : Ro} {ka k1 k2 k3 kr : Cells} {ta : List (V × W)} {sg : L2.St} {H : Hp} {te tf : TE} {tr : TA} {C C1 : Addr} {gs : List (Str × D)} {E : XK} {De De' : Ends} {dx : Option Addr} {l : List Cla} {oi : Option Nat} {ts : Addr → Value → Option Addr → TS} {Wout : WX} {u : TS}
end
end DL

/-! EG: enumerate of lists (own work). -/
namespace DL
open PySem L2 PySem.W
section
variable {K : PySem.W.Frag} {ro : Ro} {ka k1 : Cells} {te : TE} {w : W}
end
end DL

namespace DL
open PySem L2 PySem.W
theorem at_last {β : Type} {xs : List β} {x : β} (h : xs.getLast? = some x) : atI xs (-1) = some x := by
  rw [List.getLast?_eq_getElem?] at h
  have hlt := (List.getElem?_eq_some_iff.mp h).1
  unfold atI ixN
  rw [if_neg (by decide), if_pos (by omega)]
  show xs[((-1 : Int) + (xs.length : Int)).toNat]? = some x
  rw [show ((-1 : Int) + (xs.length : Int)).toNat = xs.length - 1 by omega]
  exact h
end DL

/-! EH: for loops of the hand layer out of the library's Goes: what an iterator hands out, told once, serves every caller (own work). -/
namespace DL
open PySem L2 PySem.W PyProof.Rows
/-- enumerate(v) for whatever begins with an iterator of its own -/
abbrev enumAt (i : Addr) : Obj := { cls := .type "enumerate", data := .fields #[.none, .bool false, .ref i, rawInt 0, .none, .none] }
theorem enum_new {v : Value} {o : Obj} {G : Heap → Prop} (B : Begins v o G) : Meets (Builtin.«enumerate.__new__» ⟨[.type "enumerate", v], []⟩)
    (fun _ R s => G s.heap ∧ R (.ok (.ret (.ref (s.heap.push o).objs.size))) { s with heap := (s.heap.push o).push (enumAt s.heap.objs.size) }) :=
  .of_wp fun prog w A R s ⟨g, h⟩ => by
    have own := sub_enumerate
    have go : ∀ {A' : Around} {E Q : Value → Shared → Prop}, Q (.ref s.heap.objs.size) { s with heap := s.heap.push o } → wpAny (model prog w) A' (pyIter v) Q E s := B.iter prog w _ _ s _ g
    wp_walk using go
    refine wpAny_stack_any fun _ => wpAny_pure ?_
    split
    all_goals try (rename_i c _ _ _ _ _; cases c == Value.type "enumerate")
    all_goals
      wp_walk using go
      exact ⟨_, rfl, h⟩
/-- the two new objects: the iterator, the count over it -/
theorem enum_called {prog : Program} {w : World} {A : Around} {E Q : Value → Shared → Prop} {s : Shared} {v : Value} {o : Obj} {G : Heap → Prop} (B : Begins v o G) (g : G s.heap)
    (h : ∀ n h', n = s.heap.objs.size → IsEnum h' (n + 1) n 0 .none → h'.get? n = some o → (∀ b ob, s.heap.get? b = some ob → h'.get? b = some ob) → Q (.ref (n + 1)) { s with heap := h' }) : wpAny (model prog w) A (call (.type "enumerate") [v]) Q E s := by
  apply callType_new F.called_enumerate (by decide) (F.typeCall_enumerate_1 _) (F.newCall_enumerate_1 _) (fun obj => F.args_object_init_2 obj _) F.entry_enumerate_new (enum_new B)
  have at1 : ((s.heap.push o).push (enumAt s.heap.objs.size)).get? (s.heap.objs.size + 1) = some (enumAt s.heap.objs.size) := by
    rw [← Heap.size_push]
    exact Heap.get?_push_size _ rfl
  have fin := h _ _ rfl at1 (Heap.get?_push_of_some _ (Heap.get?_push_size _ B.free)) fun b ob y => Heap.get?_push_of_some _ (Heap.get?_push_of_some _ y)
  rw [← Heap.size_push (o := o)] at fin at1
  exact ⟨g, ⟨_, at1, rfl⟩, fin⟩
end DL

/-! EI: nothing of its own (kept for the order of the parts). -/

/-! EJ: for i, x in enumerate(t), t a tuple: the library's GoesN over its Draws.tuple, told for the hand layer (own work). -/
namespace DL
open PySem L2 PySem.W PyProof.Rows
/-- what stands at turn i: the count, the iterator; the three lie apart -/
structure EnT (a e it : Addr) (i : Nat) (h : Heap) : Prop where
  en : ∃ old, IsEnum h e it (0 + (i : Int)) old
  itr : h.IsTupleIter it a i
  apart : e ≠ it ∧ a ≠ it ∧ a ≠ e
namespace EnT
variable {a e it : Addr} {i : Nat} {h : Heap}
theorem cells (z : EnT a e it i h) : ∀ b ∈ [e, it], ∃ o, h.get? b = some o ∧ ∀ v, o.data ≠ .cell v := by
  obtain ⟨⟨_, x⟩, ⟨o, y, _, d⟩, _⟩ := z
  simp only [List.forall_mem_cons, List.not_mem_nil, false_imp_iff, implies_true, and_true]
  exact ⟨⟨_, x, fun _ c => nomatch c⟩, o, y, fun _ c => nomatch d.symm.trans c⟩
theorem le (z : EnT a e it i h) {b T : Addr} (hb : b ∈ [e, it]) (hT : h.objs.size ≤ T) : b ≠ T := fun q =>
  let ⟨_, y, _⟩ := z.cells b hb
  Nat.lt_irrefl _ (Nat.lt_of_lt_of_le (q ▸ Heap.lt_size y) hT)
theorem out (z : EnT a e it i h) : e ∉ [it, a] := by
  have := z.apart
  simp only [List.mem_cons, List.not_mem_nil, or_false, not_or]
  exact ⟨this.1, this.2.2.symm⟩
end EnT
end DL

/-! EK: enumerate of lists and tuples alike (own work). -/
namespace DL
open PySem L2 PySem.W
section
variable {K : PySem.W.Frag} {ro : Ro} {ka k1 : Cells} {te : TE} {w : W}
end
end DL
namespace DL
open PySem L2 PySem.W
section
variable {K : PySem.W.Frag} {B F0 : Hp} {ro : Ro} {ka : Cells} {ta : List (V × W)} {De : Ends} {t u : TS}
/-- a statement whose ends meet under a word -/
theorem q_meet (Inv : Ro → Cells → Prop) (h : ∀ nx, (∀ ro2 ka2, Inv ro2 ka2 → Gp K B F0 ta nx ro2 ka2) → Gp K B F0 ta (t { De with nx := nx }) ro ka) (k : ∀ ro2 ka2, Inv ro2 ka2 → Gp K B F0 ta (u De) ro2 ka2) : Gp K B F0 ta (tSeq t u De) ro ka := h _ k
theorem Gp.up {ta' : List (V × W)} {P : L2.St → Hp → Prop} (h : Gp K B F0 ta P ro ka) (s : ∀ p ∈ ta, p ∈ ta') : Gp K B F0 ta' P ro ka := fun sg H e => h sg H (e.held s)
end
section
variable {X : Cx}
end
/-- w holds the texts ys: a list or tuple of them, or a dict with these keys -/
inductive HasS (ka : Cells) : W → List Str → Prop where
  | sq {w : W} {t b : Bool} {ys : List Str} (l : Lk ka w t (stD ys) b) : HasS ka w ys
  | dc {w : W} {ds : List (Key × D)} {b : Bool} {ys : List Str} (l : Dk ka w ds b) (h : ∀ s, (getT ds (.inr s)).isSome = decide (s ∈ ys)) : HasS ka w ys
section
variable {K : PySem.W.Frag} {ro : Ro} {ka k1 k2 : Cells} {te tf : TE} {y : W}
end
end DL

/-! EL: cells frozen for the length of one expression, then cells again (own work). -/
namespace DL
open PySem L2 PySem.W
/-! ### data that reads no cell: numbers, texts, tuples of these -/
mutual
def tI : D → Bool
  | .lst _ => false | .dic _ => false | .dit _ => false | .ins _ _ => false | .din _ _ => false
  | .tup xs => tIL xs
  | _ => true
def tIL : List D → Bool
  | [] => true
  | d :: ds => tI d && tIL ds
end
section
variable {K : PySem.W.Frag} {B B' F F' F0 H H' : Hp} {ro ro' : Ro} {ka k1 k2 k3 kr kt : Cells} {ta tb : List (V × W)} {sg sg' : L2.St} {te tf : TE} {tt : TT} {w x y : W} {n : Nd} {a : Addr} {C : Addr}
/-- the heap F with the cells kt of H put in -/
def thF (F H : Hp) (kt : Cells) : Hp := fun a => if a ∈ kt.map (·.1) then H a else F a
theorem thF_out {a : Addr} (h : a ∉ kt.map (·.1)) : thF F H kt a = F a := if_neg h
theorem thF_sub (h : ∀ p ∈ kt, F p.1 = none) : Sub F (thF F H kt) := fun a o e => by
  rw [thF_out fun m => ?_]
  · exact e
  · obtain ⟨p, hp, rfl⟩ := List.mem_map.mp m
    rw [h p hp] at e
    cases e
/-- cells of the three kinds -/
def ndK : Nd → Bool
  | .lst _ => true | .dic _ => true | .ins _ _ => true | .din _ _ => true
  | _ => false
/-- what is known of cells that are put in -/
structure Thw (K : PySem.W.Frag) (F H : Hp) (kt : Cells) : Prop where
  no : ∀ p ∈ kt, F p.1 = none
  ok : ∀ p ∈ kt, NdOk K F H p.1 p.2
  kd : ∀ p ∈ kt, ndK p.2 = true
theorem Thw.gr (t : Thw K F H kt) (hB : ∀ p ∈ kt, B p.1 = none) : Gr B F (thF F H kt) := ⟨thF_sub t.no, fun a h1 h2 => by
  rw [thF_out fun m => ?_]
  · exact h1
  · obtain ⟨p, hp, rfl⟩ := List.mem_map.mp m
    exact h2 (hB p hp)⟩
theorem EnF.apart (e : EnF K B F ro (k1 ++ kt) ta sg H) {p : Addr × Nd} (hp : p ∈ k1) : p.1 ∉ kt.map (·.1) := fun m => by
  have nd := e.nd
  rw [List.map_append, List.nodup_append] at nd
  exact nd.2.2 p.1 (List.mem_map.mpr ⟨p, hp, rfl⟩) p.1 m rfl
/-! ### data that reads no cell stays without the cells -/
section
variable (no : ∀ b ∈ kt.map (·.1), ∃ o, F' b = some o ∧ isfz o = false ∧ ∀ xs, o ≠ .tup xs)
include no
theorem sqt_off {b : Addr} {xs : List V} (h : SqT K F' b xs) : SqT K (off F' kt) b xs := by
  rcases h with h | h
  · have m : b ∉ kt.map (·.1) := fun m => by
      obtain ⟨o, h1, h2, h3⟩ := no b m
      rcases h with h | ⟨z, h⟩
      · rw [h1] at h
        exact h3 _ (Option.some.inj h)
      · rw [h1] at h
        cases h
        cases h2
    exact .inl (h.elim (fun q => .inl (by rw [off_out m]; exact q)) fun ⟨z, q⟩ => .inr ⟨z, by rw [off_out m]; exact q⟩)
  · exact .inr h
mutual
theorem rp_off : ∀ (d : D) (v : V), tI d = true → Rp K F' d v → Rp K (off F' kt) d v
  | .non, v, _, h => h
  | .bl _, v, _, h => h
  | .int _, v, _, h => h
  | .str _, v, _, h => h
  | .ty _, v, _, h => h
  | .adr _, v, _, h => h
  | .tup ds, v, t, h => by
    obtain ⟨b, xs, e, h1, h2⟩ := h
    exact ⟨b, xs, e, sqt_off no h1, rpl_off ds xs t h2⟩
theorem rpl_off : ∀ (ds : List D) (xs : List V), tIL ds = true → RpL K F' ds xs → RpL K (off F' kt) ds xs
  | [], xs, _, h => h
  | d :: ds, xs, t, h => by
    obtain ⟨x, ys, e, h1, h2⟩ := h
    rw [tIL, Bool.and_eq_true] at t
    exact ⟨x, ys, e, rp_off d x t.1 h1, rpl_off ds ys t.2 h2⟩
end
end
end
/-! ### what a cell stands for -/
/-- the cell at a, with what stands behind it among kt, is the data d -/
def FrzD (K : PySem.W.Frag) (kt : Cells) (a : Addr) (d : D) : Prop := ∀ F H, Nz F → Thw K F H kt → Rp K (thF F H kt) d (.ref a)
/-- the same, or a cell and what it stands for -/
inductive FzR (K : PySem.W.Frag) (kt : Cells) : D → D → Prop where
  | s (d : D) : FzR K kt d d
  | a {a : Addr} {d : D} (h : FrzD K kt a d) : FzR K kt (.adr a) d
section
variable {K : PySem.W.Frag} {F H : Hp} {kt : Cells} {a : Addr} {C : Addr}
theorem FzR.rp {d e : D} {v : V} (z : FzR K kt d e) (nz : Nz F) (t : Thw K F H kt) (h : Rp K F d v) : Rp K (thF F H kt) e v := by
  cases z with
  | s => exact Rp.mono (thF_sub t.no).exz nz _ _ h
  | a q =>
    obtain rfl : v = _ := h
    exact q F H nz t
def FzL (K : PySem.W.Frag) (kt : Cells) : List D → List D → Prop
  | [], es => es = []
  | d :: ds, es => ∃ e r, es = e :: r ∧ FzR K kt d e ∧ FzL K kt ds r
theorem FzL.same : ∀ ds : List D, FzL K kt ds ds
  | [] => rfl
  | d :: ds => ⟨d, ds, rfl, .s d, FzL.same ds⟩
theorem FzL.rp (nz : Nz F) (t : Thw K F H kt) : ∀ {ds es : List D} {xs : List V}, FzL K kt ds es → RpL K F ds xs → RpL K (thF F H kt) es xs
  | [], es, xs, z, h => by
    obtain rfl : es = [] := z
    exact h
  | d :: ds, es, xs, ⟨e, r, e1, z1, z2⟩, ⟨x, ys, e2, h1, h2⟩ => by
    subst e1
    exact ⟨x, ys, e2, z1.rp nz t h1, FzL.rp nz t z2 h2⟩
def FzF (K : PySem.W.Frag) (kt : Cells) : List (Str × D) → List (Str × D) → Prop
  | [], es => es = []
  | (k, d) :: ds, es => ∃ e r, es = (k, e) :: r ∧ FzR K kt d e ∧ FzF K kt ds r
theorem FzF.rp (nz : Nz F) (t : Thw K F H kt) : ∀ {ds es : List (Str × D)} {xs : List (Str × V)}, FzF K kt ds es → RpF K F ds xs → RpF K (thF F H kt) es xs
  | [], es, xs, z, h => by
    obtain rfl : es = [] := z
    exact h
  | (k, d) :: ds, es, xs, ⟨e, r, e1, z1, z2⟩, ⟨x, ys, e2, h1, h2⟩ => by
    subst e1
    exact ⟨x, ys, e2, z1.rp nz t h1, FzF.rp nz t z2 h2⟩
end
/-- the slots ro' are those of ro, but for cells that are told as what they stand for -/
structure RoT (K : PySem.W.Frag) (kt : Cells) (ro ro' : Ro) : Prop where
  len : ro'.length = ro.length
  at' : ∀ (i : Nat) (w : W), ro'[i]? = some (some w) → ro[i]? = some (some w) ∨ ∃ (a : Addr) (d : D), w = W.val d ∧ ro[i]? = some (some (W.val (.adr a))) ∧ FrzD K kt a d
section
variable {K : PySem.W.Frag} {B F F0 H H' : Hp} {ro ro' : Ro} {ka k1 k2 k3 kr kt : Cells} {ta tb : List (V × W)} {sg sg' : L2.St} {te tf : TE} {tt : TT} {w x y : W} {n : Nd} {a : Addr} {d : D}
theorem RoT.refl : RoT K kt ro ro := ⟨rfl, fun _ _ h => .inl h⟩
theorem RoT.set {i : Nat} (r : RoT K kt ro ro') (hi : ro[i]? = some (some (.val (.adr a)))) (z : FrzD K kt a d) : RoT K kt ro (ro'.set i (some (.val d))) := ⟨by rw [List.length_set]; exact r.len, fun j w h => by
  rw [List.getElem?_set] at h
  split at h
  · rename_i e
    subst e
    split at h
    · cases h
      exact .inr ⟨a, d, rfl, hi, z⟩
    · cases h
  · exact r.at' j w h⟩
end
end DL

/-! EM: in and bool by an own class's methods; d.pop(k) (own work). -/
namespace DL
open PySem PySem.Spec PyProof.Rows L2 PySem.W
section
variable {X : Cx} {CX : CXT} {k : Nat} {C f : Addr} {fd : FuncData} {ps : List Str} {sp : Sp} {E : XK}
end
end DL
namespace DL
open PySem L2 PySem.W
section
variable {X : Cx} {k : Nat} {C f : Addr} {ps : List Str} {E : XK} {Ct' : Ct}
end
section
variable {K : PySem.W.Frag} {B F0 : Hp} {ro : Ro} {ka k1 k2 kr : Cells} {ta : List (V × W)} {te tf td ty : TE} {x y : W} {C a : Addr} {fs : List (Str × D)} {b : Bool} {E : XK} {De : Ends} {u : TS}
end
end DL
namespace DL
open PySem L2 PySem.W
/-- a def with defaults, called without them or with all -/
def FnE (P : Program) (w : World) (K : PySem.W.Frag) (mg : Str → Option Value) (base : Heap) (k : Nat) (f : Addr) (ps : List Str) (dvs : List V) (C : Ct) : Prop :=
  ∃ fd, FnOk P w K mg base (L2.CX P w) k f fd ps (spC K C) ∧ (∃ ds, Vals dvs ds ∧ Binds K fd ps ds) ∧ ∃ ds, Vals [] ds ∧ Binds K fd ps ds
section
variable {P : Program} {w : World} {K : PySem.W.Frag} {mg : Str → Option Value} {base : Heap} {k : Nat} {f : Addr} {ps N : List Str} {dvs : List V} {C : Ct} {x qual : Str} {params : Arguments} {body : List Stmt} {scope : Scope} {fd : FuncData}
theorem FnE.d (F : FnE P w K mg base k f ps dvs C) : FnD P w K mg base k f ps dvs C := let ⟨fd, a, b, _⟩ := F; ⟨fd, a, b⟩
theorem FnE.a (F : FnE P w K mg base k f ps dvs C) : Fn P w K mg base k f ps C := by
  obtain ⟨fd, a, _, ds, v, b⟩ := F
  cases v
  exact ⟨fd, a, b⟩
end
end DL
namespace DL
open PySem L2 PySem.W
/-- an own error that the law never raises: nothing is said of its __init__ -/
def spF : Sp := fun _ _ _ _ => False
structure Xf (P : Program) (w : World) (K : PySem.W.Frag) (mg : Str → Option Value) (base : Heap) (C : Addr) : Prop where
  xc : Xc K C
  ex : ∃ fI fd ps, findIn K (.ref C) "__init__" = some (some (.ref fI)) ∧ typeIn K (.ref fI) = some (.type "function") ∧ FnOk P w K mg base (L2.CX P w) 1 fI fd ps spF ∧ Binds K fd ps []
namespace Xf
variable {P : Program} {w : World} {K : PySem.W.Frag} {mg : Str → Option Value} {base : Heap} {C : Addr}
noncomputable def fI (Z : Xf P w K mg base C) : Addr := Classical.choose Z.ex
noncomputable def fd (Z : Xf P w K mg base C) : FuncData := Classical.choose (Classical.choose_spec Z.ex)
noncomputable def px (Z : Xf P w K mg base C) : List Str := Classical.choose (Classical.choose_spec (Classical.choose_spec Z.ex))
theorem all (Z : Xf P w K mg base C) : findIn K (.ref C) "__init__" = some (some (.ref Z.fI)) ∧ typeIn K (.ref Z.fI) = some (.type "function") ∧ FnOk P w K mg base (L2.CX P w) 1 Z.fI Z.fd Z.px spF ∧ Binds K Z.fd Z.px [] :=
  Classical.choose_spec (Classical.choose_spec (Classical.choose_spec Z.ex))
end Xf
end DL

/-! EN: any cells frozen for good, returns by a word, orders of cells (own work). -/
namespace DL
open PySem L2 PySem.W
section
variable {K : PySem.W.Frag} {B F F0 H : Hp} {ro ro' : Ro} {ka kb k1 k2 k3 kr kt : Cells} {ta : List (V × W)} {sg : L2.St} {te : TE} {tt : TT} {w : W} {n : Nd} {P : L2.St → Hp → Prop} {De : Ends} {b : Bool} {Q : W → Cells → Prop}
theorem EvD.pm (h : EvD K te ro k1 w k2) (s1 : k1.Perm ka) (s2 : k2.Perm kb) : EvD K te ro ka w kb := fun B F0 ta sg H Q e q => h B F0 ta sg H Q (e.perm s1) fun v H' e' => q v H' (e'.perm s2.symm)
theorem EvT.pm (h : EvT K tt ro k1 b k2) (s1 : k1.Perm ka) (s2 : k2.Perm kb) : EvT K tt ro ka b kb := fun B F0 ta sg H Q e q => h B F0 ta sg H Q (e.perm s1) fun H' e' => q H' (e'.perm s2.symm)
theorem EvR.pm (h : EvR K te ro k1 Q) (s1 : k1.Perm ka) : EvR K te ro ka Q := fun B F0 ta sg H Q e q => h B F0 ta sg H Q (e.perm s1) q
theorem EvR.fr {P2 : W → Cells → Prop} (h : EvR K te ro k1 P2) (kr : Cells) (hP : ∀ w k, P2 w k → ∃ d, w = .val d) : EvR K te ro (k1 ++ kr) (fun w k => ∃ k0, P2 w k0 ∧ k = k0 ++ kr) := fun B F0 ta sg H Q e q => by
  obtain ⟨F, g, e⟩ := e
  refine h (off H k1) F [] sg H _ ⟨F, Gr.refl _ _, e.into e.ln (fun i w h => e.sl i w h) (fun p hp => by cases hp)⟩ fun w k v H' p e' => ?_
  obtain ⟨F', g', e'⟩ := e'
  obtain ⟨d, rfl⟩ := hP w k p
  obtain ⟨g2, e2⟩ := e.back g' e' (tb := (v, .val d) :: ta) fun p hp => by
    rcases List.mem_cons.mp hp with rfl | hp
    · exact .inr ⟨d, rfl, List.mem_cons_self⟩
    · exact .inl hp
  exact q _ _ v H' ⟨k, p, rfl⟩ ⟨F', g.trans g2, e2⟩
end
end DL
namespace DL
open PySem L2 PySem.W
section
variable {K : PySem.W.Frag} {ro : Ro} {ka k1 k2 : Cells} {ty td : TE} {P : W → Cells → Prop}
end
end DL
namespace DL
open PySem L2 PySem.W
section
variable {K : PySem.W.Frag} {B F0 : Hp} {ro : Ro} {ka k1 k2 : Cells} {ta : List (V × W)} {tt tu : TT} {De : Ends} {t t' u : TS} {R : Bool → Cells → Prop} {a b : Bool}
end
end DL
namespace DL
open PySem L2 PySem.W
section
variable {K : PySem.W.Frag} {ro : Ro} {ka k1 k2 : Cells} {te : TE} {tr : TA} {C C1 : Addr} {gs : List (Str × D)} {E : XK} {ws : List W} {Cc : Ct}
end
end DL
namespace DL
open PySem L2 PySem.W
section
variable {K : PySem.W.Frag} {ro : Ro} {ka k1 k2 : Cells} {te : TE} {tt : TT} {C : Addr} {fs : List (Str × D)} {b : Bool} {w : W} {E : XK} {Cc : Ct} {P : W → Cells → Prop} {R : Bool → Cells → Prop}
end
end DL


/-! EP: comprehensions over pairs; isinstance of several types (own work). -/
namespace DL
open PySem L2 PySem.W
section
variable {K : PySem.W.Frag} {B F F0 : Hp} {ro : Ro} {ka k1 : Cells} {ta : List (V × W)} {sg : L2.St} {H : Hp} {te : TE} {tt : TT} {d1 d2 : D} {j l : Nat}
end
section
variable {K : PySem.W.Frag} {ro : Ro} {ka k1 k2 : Cells} {te tf : TE} {w : W}
/-- the type of what w stands for, wherever it is asked -/
def TwX (K : PySem.W.Frag) (ka : Cells) (w : W) (t : Value) : Prop := ∀ B F0 ro ta sg H v, En K B F0 ro ka ta sg H → (v, w) ∈ ta → TyX K H v t
theorem Tw.x {t : Value} (l : Tw K ka w t) : TwX K ka w t := fun _ _ _ _ _ _ _ e h => l.at e h
end
end DL
namespace DL
open PySem L2 PySem.W
end DL
namespace DL
open PySem L2 PySem.W
section
variable {K : PySem.W.Frag} {ro : Ro} {ka k1 k2 : Cells} {te : TE} {tr : TA} {w : W} {C C1 : Addr} {fs : List (Str × D)} {b : Bool} {E : XK} {Cc : Ct} {ws : List W}
end
end DL

/-! EQ: for over a list of which a word tells (own work). -/
namespace DL
open PySem L2 PySem.W
section
variable {K : PySem.W.Frag} {B F F0 : Hp} {ro : Ro} {ka k1 k2 k3 kr : Cells} {ta : List (V × W)} {sg : L2.St} {H H' : Hp} {te tf tg : TE} {w x y z : W} {n : Nd} {P P2 : W → Cells → Prop} {De : Ends} {u : TS} {r : R2}
theorem RvN.lstR {ds : List D} (h : RvN K r ka x y (.lst ds)) : RvR K r ka x y (fun w k => w = .val (.lst ds) ∧ k = ka) := fun B F0 ro ta sg H u v Q e h1 h2 q => h B F0 ro ta sg H u v Q e h1 h2 fun a H' e' => q _ _ _ H' ⟨rfl, rfl⟩ e'.freeze_l
end
end DL

/-! ES: what the courses' laws want (own work). -/
namespace DL
open PySem L2 PySem.W
/-! an object made where the wish of an exception may speak of the slots -/
section
variable {X : Cx} {CX : CXT} {k : Nat} {C f : Addr} {fd : FuncData} {ps : List Str} {sp : Sp} {dvs : List V} {ds : List Value}
end
section
variable {K : PySem.W.Frag} {B F0 : Hp} {ro : Ro} {ka k1 k2 k3 : Cells} {ta : List (V × W)} {te tf tg : TE} {tt : TT} {De : Ends} {t u : TS} {w x y : W}
/-- arguments told by a word -/
def EvAR (K : PySem.W.Frag) (tr : TA) (ro : Ro) (ka : Cells) (R : List W → Cells → Prop) : Prop := ∀ B F0 ta sg H (Q : List V → Hp → Prop), En K B F0 ro ka ta sg H → (∀ ws k vs H', R ws k → vs.length = ws.length → En K B F0 ro k (vs.zip ws ++ ta) sg H' → Q vs H') → tr sg H Q
theorem EvAR.imp {tr : TA} {R R2 : List W → Cells → Prop} (h : EvAR K tr ro ka R) (i : ∀ ws k, R ws k → R2 ws k) : EvAR K tr ro ka R2 := fun B F0 ta sg H Q e q => h B F0 ta sg H Q e fun ws k vs H' r => q ws k vs H' (i ws k r)
theorem g_asgP {g : TG} {out : Oc} {E : XK} {C1 : Addr} {gs : List (Str × D)} (hX : RxOk K B F0 out E) (h : EvX K te ro ka E C1 gs k2) (o : out (.exc C1 gs) k2) : Gp K B F0 ta (tAsg te g De) ro ka := fun sg H e => h B F0 ta sg H _ e fun dx H' e' => hX.1 C1 gs k2 dx H' o e'.leaveX
theorem q_asgP {g : TG} {out : Oc} {E : XK} {C1 : Addr} {gs : List (Str × D)} (hX : RxOk K B F0 out E) (h : EvX K te ro ka E C1 gs k2) (o : out (.exc C1 gs) k2) : Gp K B F0 ta (tSeq (tAsg te g) u De) ro ka := g_asgP (De := { De with nx := u De }) hX h o
theorem EvR.rp {P P2 : W → Cells → Prop} (h : EvR K te ro ka P) (hP : ∀ w k, P w k → ∃ k', P2 w k' ∧ k'.Perm k) : EvR K te ro ka P2 := fun B F0 ta sg H Q e q => h B F0 ta sg H Q e fun w k v H' p e' =>
  let ⟨k', p2, s⟩ := hP w k p
  q w k' v H' p2 (e'.perm s)
end
section
variable {P : Program} {w : World} {K : PySem.W.Frag} {mg : Str → Option Value} {base : Heap} {k : Nat} {x qual : Str} {N ps : List Str} {params : Arguments} {body : List Stmt} {scope : Scope} {f : Addr} {fd : FuncData} {C : Ct}
/-- a contract that nothing meets (a def that calls itself, at depth 0) -/
theorem fn_vac (F : FunD K x qual params body scope [] [] f fd) (S : FnScope N ps scope)
    (hb : ∀ (kV doc pm : Value) (an : Option Addr) (cdv ct : Value) (us : List Value), us.length = ps.length → bindArgs (PySem.W.fnOf x qual params body scope .none kV doc pm an cdv ct) ⟨us, []⟩ = pure (ps.zip us))
    (h : ∀ ws ka out, ¬ C ws ka out) : Fn P w K mg base (k + 1) f ps C :=
  ⟨fd, F.ok S (fun _ _ _ _ z => by obtain ⟨_, _, _, _, _, c, _⟩ := z; exact absurd c (h _ _ _)) (fun _ _ _ _ _ _ _ _ _ z => by obtain ⟨_, _, _, _, _, c, _⟩ := z; exact absurd c (h _ _ _)), F.bindsN hb⟩
end
section
variable {K : PySem.W.Frag} {B F0 : Hp} {ro : Ro} {ka k1 k2 k3 : Cells} {te tf : TE} {w : W}
theorem list_snoc_ind {α : Type} {P : List α → Prop} (nil : P []) (snoc : ∀ (xs : List α) (x : α), P xs → P (xs ++ [x])) (xs : List α) : P xs := by
  have key : ∀ ys : List α, P ys.reverse := by
    intro ys
    induction ys with
    | nil => exact nil
    | cons y ys ih => rw [List.reverse_cons]; exact snoc _ _ ih
  have := key xs.reverse
  rwa [List.reverse_reverse] at this
end
end DL

/-! EU: lanes joined along a search for a way that joins one more (own work): plain lists. -/
namespace DL
open PySem L2 PySem.W
/-! a table of texts -/
abbrev Tb := List (Str × Str)
def getS (fo : Tb) (o : Str) : Option Str := (fo.find? fun p => decide (p.1 = o)).map (·.2)
def putS (fo : Tb) (o u : Str) : Tb := if o ∈ fo.map (·.1) then fo.map fun p => if p.1 = o then (o, u) else p else fo ++ [(o, u)]
theorem getS_some {fo : Tb} {o w : Str} (h : getS fo o = some w) : (o, w) ∈ fo := by
  unfold getS at h
  obtain ⟨p, h1, rfl⟩ := Option.map_eq_some_iff.mp h
  have h2 := List.find?_some h1
  have h3 := of_decide_eq_true h2
  subst h3
  exact List.mem_of_find?_eq_some h1
theorem getS_none {fo : Tb} {o : Str} : getS fo o = none ↔ ¬ o ∈ fo.map (·.1) := by
  unfold getS
  rw [Option.map_eq_none_iff, List.find?_eq_none]
  constructor
  · intro h z
    obtain ⟨p, h1, rfl⟩ := List.mem_map.mp z
    exact h p h1 (decide_eq_true rfl)
  · intro h p hp z
    exact h (List.mem_map.mpr ⟨p, hp, of_decide_eq_true z⟩)
theorem getS_mem {fo : Tb} (hn : (fo.map (·.1)).Nodup) {o w : Str} (h : (o, w) ∈ fo) : getS fo o = some w := by
  cases hg : getS fo o with
  | none => exact absurd (List.mem_map.mpr ⟨_, h, rfl⟩) (getS_none.mp hg)
  | some v =>
    have h2 := getS_some hg
    induction fo with
    | nil => cases h
    | cons p l ih =>
      have hn2 := List.nodup_cons.mp hn
      rcases List.mem_cons.mp h with e1 | h1
      · rcases List.mem_cons.mp h2 with e2 | h3
        · rw [← e1] at e2
          cases e2; rfl
        · exact absurd (List.mem_map.mpr ⟨(o, v), h3, by rw [← e1]⟩ : p.1 ∈ l.map (·.1)) hn2.1
      · rcases List.mem_cons.mp h2 with e2 | h3
        · exact absurd (List.mem_map.mpr ⟨(o, w), h1, by rw [← e2]⟩ : p.1 ∈ l.map (·.1)) hn2.1
        · have e : getS (p :: l) o = getS l o := by
            have ne : ¬ p.1 = o := fun z => hn2.1 (List.mem_map.mpr ⟨(o, w), h1, z.symm⟩)
            unfold getS
            rw [List.find?_cons_of_neg (by simp [ne])]
          rw [e] at hg
          exact ih hn2.2 h1 hg h3
theorem putS_keys {fo : Tb} {o u : Str} : (putS fo o u).map (·.1) = if o ∈ fo.map (·.1) then fo.map (·.1) else fo.map (·.1) ++ [o] := by
  unfold putS
  split
  · rw [List.map_map]
    refine List.map_congr_left fun p _ => ?_
    show (if p.1 = o then (o, u) else p).1 = p.1
    split
    · rename_i h; exact h.symm
    · rfl
  · rw [List.map_append]; rfl
theorem putS_nd {fo : Tb} {o u : Str} (hn : (fo.map (·.1)).Nodup) : ((putS fo o u).map (·.1)).Nodup := by
  rw [putS_keys]
  split
  · exact hn
  · rename_i h
    rw [List.nodup_append]
    exact ⟨hn, List.nodup_cons.mpr ⟨List.not_mem_nil, List.nodup_nil⟩, fun x hx y hy z => h (by rw [List.mem_singleton.mp hy] at z; rw [← z]; exact hx)⟩
theorem putS_has {fo : Tb} {o u x : Str} : x ∈ (putS fo o u).map (·.1) ↔ x = o ∨ x ∈ fo.map (·.1) := by
  rw [putS_keys]
  split
  · rename_i h
    constructor
    · exact .inr
    · rintro (rfl | h2)
      · exact h
      · exact h2
  · rw [List.mem_append, List.mem_singleton]
    exact Or.comm
theorem putS_mem {fo : Tb} {o u x w : Str} (h : (x, w) ∈ putS fo o u) : (x = o ∧ w = u) ∨ (x, w) ∈ fo := by
  unfold putS at h
  split at h
  · obtain ⟨p, h1, h2⟩ := List.mem_map.mp h
    split at h2
    · cases h2; exact .inl ⟨rfl, rfl⟩
    · rw [← h2]; exact .inr h1
  · rcases List.mem_append.mp h with h | h
    · exact .inr h
    · cases List.mem_singleton.mp h; exact .inl ⟨rfl, rfl⟩
theorem getS_other {fo : Tb} {o u x : Str} (h : x ≠ o) : getS (putS fo o u) x = getS fo x := by
  unfold getS putS
  split
  · have key : ∀ l : Tb, ((l.map fun p => if p.1 = o then (o, u) else p).find? fun p => decide (p.1 = x)).map (·.2) = (l.find? fun p => decide (p.1 = x)).map (·.2) := by
      intro l
      induction l with
      | nil => rfl
      | cons p l ih =>
        rw [List.map_cons]
        by_cases e : p.1 = o
        · rw [if_pos e, List.find?_cons_of_neg (by simp [Ne.symm h]), List.find?_cons_of_neg (by rw [e]; simp [Ne.symm h])]
          exact ih
        · rw [if_neg e]
          by_cases e2 : p.1 = x
          · rw [List.find?_cons_of_pos (by simp [e2]), List.find?_cons_of_pos (by simp [e2])]
          · rw [List.find?_cons_of_neg (by simp [e2]), List.find?_cons_of_neg (by simp [e2])]
            exact ih
    exact key fo
  · rw [List.find?_append]
    have : ([(o, u)] : Tb).find? (fun p => decide (p.1 = x)) = none := by rw [List.find?_cons_of_neg (by simp [Ne.symm h])]; rfl
    rw [this, Option.or_none]
/-- the values behind a put -/
theorem putS_vals {fo : Tb} {o u w : Str} (hn : (fo.map (·.1)).Nodup) (h : getS fo o = some w) : (w :: (putS fo o u).map (·.2)).Perm (u :: fo.map (·.2)) := by
  have hm := getS_some h
  have hk : o ∈ fo.map (·.1) := List.mem_map.mpr ⟨_, hm, rfl⟩
  unfold putS
  rw [if_pos hk]
  clear h hk
  induction fo with
  | nil => cases hm
  | cons p l ih =>
    have hn2 := List.nodup_cons.mp hn
    rcases List.mem_cons.mp hm with e | hm
    · subst e
      rw [List.map_cons, List.map_cons, List.map_cons, if_pos rfl]
      have e2 : (l.map fun p => if p.1 = o then (o, u) else p) = l := by
        have : ∀ q ∈ l, (if q.1 = o then (o, u) else q) = q := fun q hq => if_neg fun z => hn2.1 (List.mem_map.mpr ⟨q, hq, z⟩)
        exact (List.map_congr_left this).trans (List.map_id _)
      rw [e2]
      exact List.Perm.swap _ _ _
    · have ne : ¬ p.1 = o := fun z => hn2.1 (List.mem_map.mpr ⟨_, hm, z.symm⟩)
      rw [List.map_cons, List.map_cons, List.map_cons, if_neg ne]
      exact (List.Perm.swap _ _ _).trans (((ih hn2.2 hm).cons _).trans (List.Perm.swap _ _ _))
theorem putS_valsN {fo : Tb} {o u : Str} (h : getS fo o = none) : (putS fo o u).map (·.2) = fo.map (·.2) ++ [u] := by
  unfold putS
  rw [if_neg (getS_none.mp h), List.map_append]
  rfl
/-! the search -/
structure Js where
  fo : Tb
  tr : List Str
def augL (rec : Str → Js → Bool × Js) (u : Str) : List Str → Js → Bool × Js
  | [], s => (false, s)
  | o :: os, s => if o ∈ s.tr then augL rec u os s else
    match getS s.fo o with
    | none => (true, ⟨putS s.fo o u, s.tr ++ [o]⟩)
    | some w => match rec w ⟨s.fo, s.tr ++ [o]⟩ with
      | (true, s2) => (true, ⟨putS s2.fo o u, s2.tr⟩)
      | (false, s2) => augL rec u os s2
def aug (bh : Str → List Str) : Nat → Str → Js → Bool × Js
  | 0, _, s => (false, s)
  | n + 1, u, s => augL (aug bh n) u (bh u) s
/-- what a search leaves: what was tried stays; tried ones keep their place; without success all stays -/
structure Ag (s : Js) (r : Bool × Js) : Prop where
  tr : ∀ x ∈ s.tr, x ∈ r.2.tr
  keep : ∀ x ∈ s.tr, getS r.2.fo x = getS s.fo x
  fail : r.1 = false → r.2.fo = s.fo
  nd : (s.fo.map (·.1)).Nodup → (r.2.fo.map (·.1)).Nodup
theorem ag_L {rec : Str → Js → Bool × Js} (hr : ∀ w s, Ag s (rec w s)) (u : Str) : ∀ (os : List Str) (s : Js), Ag s (augL rec u os s)
  | [], s => ⟨fun _ h => h, fun _ _ => rfl, fun _ => rfl, fun h => h⟩
  | o :: os, s => by
    unfold augL
    split
    · exact ag_L hr u os s
    · rename_i hno
      split
      · exact ⟨fun x h => List.mem_append_left _ h, fun x h => getS_other fun z => hno (by rw [← z]; exact h), fun z => (by cases z), putS_nd⟩
      · rename_i w hw
        have a := hr w ⟨s.fo, s.tr ++ [o]⟩
        split
        · rename_i s2 e
          rw [e] at a
          refine ⟨fun x h => a.tr x (List.mem_append_left _ h), fun x h => ?_, fun z => (by cases z), fun h => putS_nd (a.nd h)⟩
          exact (getS_other fun z => hno (by rw [← z]; exact h)).trans (a.keep x (List.mem_append_left _ h))
        · rename_i s2 e
          rw [e] at a
          have b := ag_L hr u os s2
          refine ⟨fun x h => b.tr x (a.tr x (List.mem_append_left _ h)), fun x h => (b.keep x (a.tr x (List.mem_append_left _ h))).trans (a.keep x (List.mem_append_left _ h)), fun z => (b.fail z).trans (a.fail rfl), fun h => b.nd (a.nd h)⟩
theorem ag_all (bh : Str → List Str) : ∀ (n : Nat) (u : Str) (s : Js), Ag s (aug bh n u s)
  | 0, u, s => ⟨fun _ h => h, fun _ _ => rfl, fun _ => rfl, fun h => h⟩
  | n + 1, u, s => ag_L (ag_all bh n) u (bh u) s
/-- success: u has a place more -/
theorem aug_vals (bh : Str → List Str) : ∀ (n : Nat) (u : Str) (s s' : Js), (s.fo.map (·.1)).Nodup → aug bh n u s = (true, s') → (s'.fo.map (·.2)).Perm (u :: s.fo.map (·.2))
  | 0, u, s, s', _, h => by cases h
  | n + 1, u, s, s', hn, h => by
    have key : ∀ (os : List Str) (s : Js), (s.fo.map (·.1)).Nodup → augL (aug bh n) u os s = (true, s') → (s'.fo.map (·.2)).Perm (u :: s.fo.map (·.2)) := by
      intro os
      induction os with
      | nil => intro s _ h; cases h
      | cons o os ih =>
        intro s hn h
        unfold augL at h
        split at h
        · exact ih s hn h
        · split at h
          · rename_i hg
            cases h
            show ((putS s.fo o u).map (·.2)).Perm _
            rw [putS_valsN hg]
            exact List.perm_append_comm
          · rename_i w hw
            have a := ag_all bh n w ⟨s.fo, s.tr ++ [o]⟩
            split at h
            · rename_i s2 e
              cases h
              have ihv := aug_vals bh n w ⟨s.fo, s.tr ++ [o]⟩ _ hn e
              rw [e] at a
              have hk : getS s2.fo o = some w := (a.keep o (List.mem_append_right _ (List.mem_singleton.mpr rfl))).trans hw
              have p1 := putS_vals (u := u) (a.nd hn) hk
              exact (List.Perm.cons_inv (a := w) (p1.trans ((ihv.cons u).trans (List.Perm.swap _ _ _))))
            · rename_i s2 e
              rw [e] at a
              have hf : s2.fo = s.fo := a.fail rfl
              have := ih s2 (a.nd hn) h
              rwa [hf] at this
    exact key _ _ hn h
/-- all pairs are of the relation -/
theorem aug_edge {bh : Str → List Str} : ∀ (n : Nat) (u : Str) (s : Js), (∀ p ∈ s.fo, p.1 ∈ bh p.2) → ∀ p ∈ (aug bh n u s).2.fo, p.1 ∈ bh p.2
  | 0, u, s, h => h
  | n + 1, u, s, h => by
    have key : ∀ (os : List Str) (s : Js), (∀ o ∈ os, o ∈ bh u) → (∀ p ∈ s.fo, p.1 ∈ bh p.2) → ∀ p ∈ (augL (aug bh n) u os s).2.fo, p.1 ∈ bh p.2 := by
      intro os
      induction os with
      | nil => intro s _ h; exact h
      | cons o os ih =>
        intro s hos h
        have put : ∀ fo : Tb, (∀ p ∈ fo, p.1 ∈ bh p.2) → ∀ p ∈ putS fo o u, p.1 ∈ bh p.2 := fun fo hf p hp => by
          rcases putS_mem (x := p.1) (w := p.2) hp with ⟨e1, e2⟩ | hp
          · rw [e1, e2]; exact hos o List.mem_cons_self
          · exact hf _ hp
        unfold augL
        split
        · exact ih s (fun x hx => hos x (List.mem_cons_of_mem _ hx)) h
        · split
          · exact put _ h
          · rename_i w hw
            have hr := aug_edge n w ⟨s.fo, s.tr ++ [o]⟩ h
            split
            · rename_i s2 e
              rw [e] at hr
              exact put _ hr
            · rename_i s2 e
              rw [e] at hr
              exact ih s2 (fun x hx => hos x (List.mem_cons_of_mem _ hx)) hr
    exact key _ _ (fun _ h => h) h
/-- T is closed: each of T has a place, and what is behind that one is in T -/
def Cl (bh : Str → List Str) (fo : Tb) (T : List Str) : Prop := ∀ o ∈ T, ∃ w, getS fo o = some w ∧ ∀ x ∈ bh w, x ∈ T
/-- no search leaves a closed set -/
theorem aug_cl {bh : Str → List Str} {T : List Str} : ∀ (n : Nat) (u : Str) (s : Js), Cl bh s.fo T → (∀ x ∈ bh u, x ∈ T) → (aug bh n u s).1 = false
  | 0, u, s, _, _ => rfl
  | n + 1, u, s, hc, hu => by
    have key : ∀ (os : List Str) (s : Js), (∀ o ∈ os, o ∈ T) → Cl bh s.fo T → (augL (aug bh n) u os s).1 = false := by
      intro os
      induction os with
      | nil => intro s _ _; rfl
      | cons o os ih =>
        intro s hos hc
        have hos2 : ∀ x ∈ os, x ∈ T := fun x hx => hos x (List.mem_cons_of_mem _ hx)
        obtain ⟨w, hw, hb⟩ := hc o (hos o List.mem_cons_self)
        unfold augL
        rw [hw]
        dsimp only
        split
        · exact ih s hos2 hc
        · have hr := aug_cl n w ⟨s.fo, s.tr ++ [o]⟩ hc hb
          have a := ag_all bh n w ⟨s.fo, s.tr ++ [o]⟩
          split
          · rename_i s2 e
            rw [e] at hr
            cases hr
          · rename_i s2 e
            rw [e] at a
            exact ih s2 hos2 (by rw [a.fail rfl]; exact hc)
    exact key _ _ hu hc
theorem aug_keepT {bh : Str → List Str} {T : List Str} : ∀ (n : Nat) (u : Str) (s : Js), Cl bh s.fo T → ∀ o ∈ T, getS (aug bh n u s).2.fo o = getS s.fo o
  | 0, u, s, _, _, _ => rfl
  | n + 1, u, s, hc, t, ht => by
    have key : ∀ (os : List Str) (s : Js), Cl bh s.fo T → getS (augL (aug bh n) u os s).2.fo t = getS s.fo t := by
      intro os
      induction os with
      | nil => intro s _; rfl
      | cons o os ih =>
        intro s hc
        unfold augL
        split
        · exact ih s hc
        · split
          · rename_i hg
            refine getS_other fun z => ?_
            subst z
            obtain ⟨w, hw, _⟩ := hc t ht
            rw [hg] at hw
            cases hw
          · rename_i w hw
            have hk := aug_keepT n w ⟨s.fo, s.tr ++ [o]⟩ hc t ht
            have a := ag_all bh n w ⟨s.fo, s.tr ++ [o]⟩
            split
            · rename_i s2 e
              rw [e] at hk
              refine (getS_other fun z => ?_).trans hk
              subst z
              obtain ⟨w', hw', hb⟩ := hc t ht
              rw [hw] at hw'
              cases hw'
              have := aug_cl n w ⟨s.fo, s.tr ++ [t]⟩ hc hb
              rw [e] at this
              cases this
            · rename_i s2 e
              rw [e] at a hk
              rw [ih s2 (by rw [a.fail rfl]; exact hc)]
              exact hk
    exact key _ _ hc
/-- a search that fails has tried a closed set -/
theorem aug_fail {bh : Str → List Str} {L : List Str} (hb : ∀ l, ∀ x ∈ bh l, x ∈ L) : ∀ (n : Nat) (u : Str) (s s' : Js), s.tr.Nodup → (∀ x ∈ s.tr, x ∈ L) → L.length < n + s.tr.length → aug bh n u s = (false, s') →
    s'.tr.Nodup ∧ (∀ x ∈ s'.tr, x ∈ L) ∧ (∀ o ∈ bh u, o ∈ s'.tr) ∧ ∀ o ∈ s'.tr, ¬ o ∈ s.tr → ∃ w, getS s.fo o = some w ∧ ∀ x ∈ bh w, x ∈ s'.tr
  | 0, u, s, s', hd, hs, hl, h => by
    have len : s.tr.length ≤ L.length := by
      clear h hl
      generalize s.tr = xs at *
      have sub : ∀ (xs ys : List Str), xs.Nodup → (∀ x ∈ xs, x ∈ ys) → xs.length ≤ ys.length := by
        intro xs
        induction xs with
        | nil => intro ys _ _; exact Nat.zero_le _
        | cons x xs ih =>
          intro ys hn hm
          have h2 := List.nodup_cons.mp hn
          have hx := hm x List.mem_cons_self
          have := ih (ys.erase x) h2.2 fun y hy => (List.mem_erase_of_ne (fun z : y = x => h2.1 (by rw [← z]; exact hy))).mpr (hm y (List.mem_cons_of_mem _ hy))
          rw [List.length_erase_of_mem hx] at this
          have : 0 < ys.length := List.length_pos_of_mem hx
          rw [List.length_cons]
          omega
      exact sub xs L hd hs
    omega
  | n + 1, u, s, s', hd, hs, hl, h => by
    have key : ∀ (os : List Str) (s : Js), (∀ o ∈ os, o ∈ L) → s.tr.Nodup → (∀ x ∈ s.tr, x ∈ L) → L.length < n + 1 + s.tr.length → augL (aug bh n) u os s = (false, s') →
        s'.tr.Nodup ∧ (∀ x ∈ s'.tr, x ∈ L) ∧ (∀ x ∈ s.tr, x ∈ s'.tr) ∧ (∀ o ∈ os, o ∈ s'.tr) ∧ ∀ o ∈ s'.tr, ¬ o ∈ s.tr → ∃ w, getS s.fo o = some w ∧ ∀ x ∈ bh w, x ∈ s'.tr := by
      intro os
      induction os with
      | nil =>
        intro s _ hd hs _ h
        cases h
        exact ⟨hd, hs, fun _ h => h, fun _ h => (by cases h), fun o h1 h2 => absurd h1 h2⟩
      | cons o os ih =>
        intro s hos hd hs hl h
        have hos2 : ∀ x ∈ os, x ∈ L := fun x hx => hos x (List.mem_cons_of_mem _ hx)
        unfold augL at h
        split at h
        · rename_i hin
          obtain ⟨h1, h2, h3, h4, h5⟩ := ih s hos2 hd hs hl h
          refine ⟨h1, h2, h3, fun x hx => ?_, h5⟩
          rcases List.mem_cons.mp hx with rfl | hx
          · exact h3 _ hin
          · exact h4 x hx
        · rename_i hin
          split at h
          · cases h
          · rename_i w hw
            have a := ag_all bh n w ⟨s.fo, s.tr ++ [o]⟩
            split at h
            · cases h
            · rename_i s2 e
              have hd2 : (s.tr ++ [o]).Nodup := by
                rw [List.nodup_append]
                exact ⟨hd, List.nodup_cons.mpr ⟨List.not_mem_nil, List.nodup_nil⟩, fun x hx y hy z => hin (by rw [List.mem_singleton.mp hy] at z; rw [← z]; exact hx)⟩
              have hs2 : ∀ x ∈ s.tr ++ [o], x ∈ L := fun x hx => by
                rcases List.mem_append.mp hx with hx | hx
                · exact hs x hx
                · rw [List.mem_singleton.mp hx]; exact hos o List.mem_cons_self
              obtain ⟨r1, r2, r3, r4⟩ := aug_fail hb n w ⟨s.fo, s.tr ++ [o]⟩ s2 hd2 hs2 (by show L.length < n + (s.tr ++ [o]).length; rw [List.length_append, List.length_singleton]; omega) e
              rw [e] at a
              have hf : s2.fo = s.fo := a.fail rfl
              have hlen : s.tr.length ≤ s2.tr.length := by
                have sub : ∀ (xs ys : List Str), xs.Nodup → (∀ x ∈ xs, x ∈ ys) → xs.length ≤ ys.length := by
                  intro xs
                  induction xs with
                  | nil => intro ys _ _; exact Nat.zero_le _
                  | cons x xs ih =>
                    intro ys hn hm
                    have h2 := List.nodup_cons.mp hn
                    have hx := hm x List.mem_cons_self
                    have := ih (ys.erase x) h2.2 fun y hy => (List.mem_erase_of_ne (fun z : y = x => h2.1 (by rw [← z]; exact hy))).mpr (hm y (List.mem_cons_of_mem _ hy))
                    rw [List.length_erase_of_mem hx] at this
                    have : 0 < ys.length := List.length_pos_of_mem hx
                    rw [List.length_cons]
                    omega
                exact sub _ _ hd fun x hx => a.tr x (List.mem_append_left _ hx)
              obtain ⟨h1, h2, h3, h4, h5⟩ := ih s2 hos2 r1 r2 (by omega) h
              refine ⟨h1, h2, fun x hx => h3 x (a.tr x (List.mem_append_left _ hx)), fun x hx => ?_, fun x hx hxs => ?_⟩
              · rcases List.mem_cons.mp hx with rfl | hx
                · exact h3 _ (a.tr _ (List.mem_append_right _ (List.mem_singleton.mpr rfl)))
                · exact h4 x hx
              · by_cases hx2 : x ∈ s2.tr
                · by_cases hxo : x = o
                  · subst hxo
                    exact ⟨w, hw, fun y hy => h3 y (r3 y hy)⟩
                  · obtain ⟨w', q1, q2⟩ := r4 x hx2 fun z => (List.mem_append.mp z).elim hxs fun z => hxo (List.mem_singleton.mp z)
                    exact ⟨w', q1, fun y hy => h3 y (q2 y hy)⟩
                · obtain ⟨w', q1, q2⟩ := h5 x hx hx2
                  rw [hf] at q1
                  exact ⟨w', q1, q2⟩
    obtain ⟨h1, h2, h3, h4, h5⟩ := key _ _ (fun o ho => hb u o ho) hd hs hl h
    exact ⟨h1, h2, h4, h5⟩
end DL

/-! EV: as many lanes apart as chains are wanted (own work): plain lists. -/
namespace DL
open PySem L2 PySem.W
theorem nd_sub_len : ∀ {xs ys : List Str}, xs.Nodup → (∀ x ∈ xs, x ∈ ys) → xs.length ≤ ys.length
  | [], _, _, _ => Nat.zero_le _
  | x :: xs, ys, hn, hm => by
    have h2 := List.nodup_cons.mp hn
    have hx := hm x List.mem_cons_self
    have := nd_sub_len (ys := ys.erase x) h2.2 fun y hy => (List.mem_erase_of_ne (fun z : y = x => h2.1 (by rw [← z]; exact hy))).mpr (hm y (List.mem_cons_of_mem _ hy))
    rw [List.length_erase_of_mem hx] at this
    have : 0 < ys.length := List.length_pos_of_mem hx
    rw [List.length_cons]
    omega
/-- one lane joined, if it can be -/
def foStep (bh : Str → List Str) (n : Nat) (fo : Tb) (l : Str) : Tb := (aug bh n l ⟨fo, []⟩).2.fo
def foAll (bh : Str → List Str) (n : Nat) (ls : List Str) (fo : Tb) : Tb := ls.foldl (foStep bh n) fo
/-- joined so far: those of pre that have no place are shut in by a closed set -/
structure Jn (bh : Str → List Str) (L pre : List Str) (fo : Tb) : Prop where
  kn : (fo.map (·.1)).Nodup
  vn : (fo.map (·.2)).Nodup
  vs : ∀ v ∈ fo.map (·.2), v ∈ pre
  ed : ∀ p ∈ fo, p.1 ∈ bh p.2
  cl : ∃ T, Cl bh fo T ∧ (∀ x ∈ T, x ∈ L) ∧ ∀ u ∈ pre, ¬ u ∈ fo.map (·.2) → ∀ x ∈ bh u, x ∈ T
theorem Jn.step {bh : Str → List Str} {L pre : List Str} {fo : Tb} (h : Jn bh L pre fo) (hb : ∀ l, ∀ x ∈ bh l, x ∈ L) {n : Nat} (hn : L.length < n) {l : Str} (hl : ¬ l ∈ pre) : Jn bh L (pre ++ [l]) (foStep bh n fo l) := by
  obtain ⟨T, hT, hTL, hU⟩ := h.cl
  have a := ag_all bh n l ⟨fo, []⟩
  have ed := aug_edge (bh := bh) n l ⟨fo, []⟩ h.ed
  have kt := aug_keepT (T := T) n l ⟨fo, []⟩ hT
  unfold foStep
  generalize hr : aug bh n l ⟨fo, []⟩ = r at *
  obtain ⟨b, s'⟩ := r
  cases b with
  | false =>
    have hf : s'.fo = fo := a.fail rfl
    obtain ⟨h1, h2, h3, h4⟩ := aug_fail hb n l ⟨fo, []⟩ s' List.nodup_nil (fun _ z => (by cases z)) (by show L.length < n + 0; omega) hr
    show Jn bh L (pre ++ [l]) s'.fo
    rw [hf]
    refine ⟨h.kn, h.vn, fun v hv => List.mem_append_left _ (h.vs v hv), h.ed, T ++ s'.tr, fun o ho => ?_, fun x hx => ?_, fun u hu hnu x hx => ?_⟩
    · rcases List.mem_append.mp ho with ho | ho
      · obtain ⟨w, q1, q2⟩ := hT o ho
        exact ⟨w, q1, fun x hx => List.mem_append_left _ (q2 x hx)⟩
      · obtain ⟨w, q1, q2⟩ := h4 o ho (fun z => by cases z)
        exact ⟨w, q1, fun x hx => List.mem_append_right _ (q2 x hx)⟩
    · exact (List.mem_append.mp hx).elim (hTL x) (h2 x)
    · rcases List.mem_append.mp hu with hu | hu
      · exact List.mem_append_left _ (hU u hu hnu x hx)
      · rw [List.mem_singleton.mp hu] at hx
        exact List.mem_append_right _ (h3 x hx)
  | true =>
    have hv := aug_vals bh n l ⟨fo, []⟩ s' h.kn hr
    have hv : (s'.fo.map (·.2)).Perm (l :: fo.map (·.2)) := hv
    show Jn bh L (pre ++ [l]) s'.fo
    refine ⟨a.nd h.kn, ?_, fun v hm => ?_, ed, T, fun o ho => ?_, hTL, fun u hu hnu => ?_⟩
    · exact hv.nodup_iff.mpr (List.nodup_cons.mpr ⟨fun z => hl (h.vs l z), h.vn⟩)
    · rcases List.mem_cons.mp (hv.mem_iff.mp hm) with rfl | hm
      · exact List.mem_append_right _ (List.mem_singleton.mpr rfl)
      · exact List.mem_append_left _ (h.vs v hm)
    · obtain ⟨w, q1, q2⟩ := hT o ho
      exact ⟨w, (kt o ho).trans q1, q2⟩
    · rcases List.mem_append.mp hu with hu | hu
      · exact hU u hu fun z => hnu (hv.mem_iff.mpr (List.mem_cons_of_mem _ z))
      · rw [List.mem_singleton.mp hu] at hnu
        exact absurd (hv.mem_iff.mpr List.mem_cons_self) hnu
theorem Jn.all {bh : Str → List Str} {L : List Str} (hb : ∀ l, ∀ x ∈ bh l, x ∈ L) {n : Nat} (hn : L.length < n) : ∀ (ls pre : List Str) (fo : Tb), (pre ++ ls).Nodup → Jn bh L pre fo → Jn bh L (pre ++ ls) (foAll bh n ls fo)
  | [], pre, fo, _, h => by rw [List.append_nil]; exact h
  | l :: ls, pre, fo, hd, h => by
    have e : pre ++ l :: ls = (pre ++ [l]) ++ ls := by rw [List.append_assoc]; rfl
    rw [e] at hd ⊢
    have hl : ¬ l ∈ pre := fun z => (List.nodup_append.mp (List.nodup_append.mp hd).1).2.2 l z l (List.mem_singleton.mpr rfl) rfl
    exact Jn.all hb hn ls (pre ++ [l]) _ hd (h.step hb hn hl)
theorem Jn.ini {bh : Str → List Str} {L : List Str} : Jn bh L [] [] := ⟨List.nodup_nil, List.nodup_nil, fun _ h => (by cases h), fun _ h => (by cases h), [], fun _ h => (by cases h), fun _ h => (by cases h), fun _ h => (by cases h)⟩
/-- an order of lanes: strict -/
structure Od (bh : Str → List Str) (L : List Str) : Prop where
  sub : ∀ l, ∀ x ∈ bh l, x ∈ L
  irr : ∀ l, ¬ l ∈ bh l
  tra : ∀ {l x y}, x ∈ bh l → y ∈ bh x → y ∈ bh l

/-! lanes apart -/
def vOf (fo : Tb) (o : Str) : Str := (getS fo o).getD ""
/-- left ones so far and right ones: the first lefts have no place, then those of the rights -/
structure Ap (bh : Str → List Str) (L : List Str) (fo : Tb) (T U left right : List Str) : Prop where
  le : left = U ++ right.map (vOf fo)
  rn : right.Nodup
  rt : ∀ x ∈ right, x ∈ T
  rb : ∀ x ∈ right, ∃ l ∈ left, x ∈ bh l
/-- what is fixed: fo joins lanes, T closed -/
structure Fx0 (bh : Str → List Str) (L : List Str) (fo : Tb) (T U : List Str) : Prop where
  od : Od bh L
  ln : L.Nodup
  kn : (fo.map (·.1)).Nodup
  vn : (fo.map (·.2)).Nodup
  vs : ∀ v ∈ fo.map (·.2), v ∈ L
  ed : ∀ p ∈ fo, p.1 ∈ bh p.2
  tl : ∀ x ∈ T, x ∈ L
  cl : Cl bh fo T
  ue : U = L.filter fun l => !decide (l ∈ fo.map (·.2))
  ut : ∀ u ∈ U, ∀ x ∈ bh u, x ∈ T
section
variable {bh : Str → List Str} {L : List Str} {fo : Tb} {T U left right : List Str}
theorem vOf_at {o w : Str} (h : getS fo o = some w) : vOf fo o = w := by unfold vOf; rw [h]; rfl
theorem Fx0.at (f : Fx0 bh L fo T U) {o : Str} (h : o ∈ T) : getS fo o = some (vOf fo o) ∧ (o, vOf fo o) ∈ fo ∧ ∀ x ∈ bh (vOf fo o), x ∈ T := by
  obtain ⟨w, h1, h2⟩ := f.cl o h
  rw [vOf_at h1]
  exact ⟨h1, getS_some h1, h2⟩
theorem inj_of_vn : ∀ {fo : Tb}, (fo.map (·.2)).Nodup → ∀ {o o' w : Str}, (o, w) ∈ fo → (o', w) ∈ fo → o = o'
  | [], _, _, _, _, h, _ => by cases h
  | p :: l, hn, o, o', w, h1, h2 => by
    have hn2 := List.nodup_cons.mp hn
    rcases List.mem_cons.mp h1 with e1 | h1
    · rcases List.mem_cons.mp h2 with e2 | h2
      · rw [← e1] at e2; cases e2; rfl
      · exact absurd (List.mem_map.mpr ⟨(o', w), h2, by rw [← e1]⟩ : p.2 ∈ l.map (·.2)) hn2.1
    · rcases List.mem_cons.mp h2 with e2 | h2
      · exact absurd (List.mem_map.mpr ⟨(o, w), h1, by rw [← e2]⟩ : p.2 ∈ l.map (·.2)) hn2.1
      · exact inj_of_vn hn2.2 h1 h2
theorem Ap.nd (f : Fx0 bh L fo T U) (a : Ap bh L fo T U left right) : left.Nodup ∧ ∀ x ∈ left, x ∈ L := by
  have hU : ∀ u ∈ U, u ∈ L ∧ ¬ u ∈ fo.map (·.2) := fun u hu => by
    rw [f.ue, List.mem_filter, Bool.not_eq_true', decide_eq_false_iff_not] at hu
    exact hu
  have hv : ∀ o ∈ right, (o, vOf fo o) ∈ fo := fun o ho => (f.at (a.rt o ho)).2.1
  rw [a.le]
  refine ⟨List.nodup_append.mpr ⟨by rw [f.ue]; exact f.ln.filter _, ?_, fun x hx y hy z => ?_⟩, fun x hx => ?_⟩
  · have key : ∀ rs : List Str, rs.Nodup → (∀ o ∈ rs, (o, vOf fo o) ∈ fo) → (rs.map (vOf fo)).Nodup := by
      intro rs
      induction rs with
      | nil => intro _ _; exact List.nodup_nil
      | cons r rs ih =>
        intro hn hm
        have h2 := List.nodup_cons.mp hn
        rw [List.map_cons, List.nodup_cons]
        refine ⟨fun z => ?_, ih h2.2 fun o ho => hm o (List.mem_cons_of_mem _ ho)⟩
        obtain ⟨o, ho, e⟩ := List.mem_map.mp z
        have m1 := hm o (List.mem_cons_of_mem _ ho)
        rw [e] at m1
        exact h2.1 (inj_of_vn f.vn m1 (hm r List.mem_cons_self) ▸ ho)
    exact key _ a.rn hv
  · obtain ⟨o, ho, rfl⟩ := List.mem_map.mp hy
    exact (hU x hx).2 (z ▸ List.mem_map.mpr ⟨_, hv o ho, rfl⟩)
  · rcases List.mem_append.mp hx with hx | hx
    · exact (hU x hx).1
    · obtain ⟨o, ho, rfl⟩ := List.mem_map.mp hx
      exact f.vs _ (List.mem_map.mpr ⟨_, hv o ho, rfl⟩)
/-- the lanes that are left and not right -/
def apL (L left right : List Str) : List Str := L.filter fun l => decide (l ∈ left) && !decide (l ∈ right)
theorem mem_apL {x : Str} : x ∈ apL L left right ↔ x ∈ L ∧ x ∈ left ∧ ¬ x ∈ right := by
  unfold apL
  rw [List.mem_filter, Bool.and_eq_true, decide_eq_true_eq, Bool.not_eq_true', decide_eq_false_iff_not]
theorem filt_len : ∀ (xs : List Str) (p : Str → Bool), (xs.filter p).length + (xs.filter fun x => !p x).length = xs.length
  | [], _ => rfl
  | x :: xs, p => by
    have := filt_len xs p
    rw [List.filter_cons, List.filter_cons]
    cases p x <;> simp <;> omega
/-- no two of them in the order; as many as have no place -/
theorem Ap.fin (f : Fx0 bh L fo T U) (a : Ap bh L fo T U left right) (hc : ∀ l ∈ left, ∀ x ∈ bh l, x ∈ right) :
    (∀ x ∈ apL L left right, ∀ y ∈ apL L left right, ¬ y ∈ bh x) ∧ (apL L left right).length = U.length := by
  obtain ⟨ln, ls⟩ := a.nd f
  refine ⟨fun x hx y hy z => (mem_apL.mp hy).2.2 (hc x (mem_apL.mp hx).2.1 y z), ?_⟩
  -- every right one is a left one
  have hrl : ∀ x ∈ right, x ∈ left := fun x hx => by
    have hxL := f.tl x (a.rt x hx)
    by_cases hu : x ∈ fo.map (·.2)
    · obtain ⟨p, hp, e⟩ := List.mem_map.mp hu
      have hpb := f.ed p hp
      have e : p.2 = x := e
      rw [e] at hpb
      obtain ⟨l, hl, hxl⟩ := a.rb x hx
      have hpr := hc l hl p.1 (f.od.tra hxl hpb)
      have hv : vOf fo p.1 = p.2 := vOf_at (getS_mem f.kn (show (p.1, p.2) ∈ fo from hp))
      rw [a.le]
      exact List.mem_append_right _ (List.mem_map.mpr ⟨p.1, hpr, hv.trans e⟩)
    · rw [a.le]
      exact List.mem_append_left _ (by rw [f.ue, List.mem_filter, Bool.not_eq_true', decide_eq_false_iff_not]; exact ⟨hxL, hu⟩)
  have e1 : (apL L left right).length = (left.filter fun l => !decide (l ∈ right)).length := by
    refine Nat.le_antisymm (nd_sub_len (f.ln.filter _) fun x hx => ?_) (nd_sub_len (ln.filter _) fun x hx => ?_)
    · have := mem_apL.mp hx
      exact List.mem_filter.mpr ⟨this.2.1, by rw [decide_eq_false this.2.2]; rfl⟩
    · obtain ⟨h1, h2⟩ := List.mem_filter.mp hx
      rw [Bool.not_eq_true', decide_eq_false_iff_not] at h2
      exact mem_apL.mpr ⟨ls x h1, h1, h2⟩
  have e2 : (left.filter fun l => decide (l ∈ right)).length = right.length := by
    refine Nat.le_antisymm (nd_sub_len (ln.filter _) fun x hx => of_decide_eq_true (List.mem_filter.mp hx).2) (nd_sub_len a.rn fun x hx => List.mem_filter.mpr ⟨hrl x hx, decide_eq_true hx⟩)
  have e3 := filt_len left fun l => decide (l ∈ right)
  have e4 : left.length = U.length + right.length := by rw [a.le, List.length_append, List.length_map]
  omega
end
end DL

/-! EW: chains of joined lanes (own work): plain lists. -/
namespace DL
open PySem L2 PySem.W
/-- the table turned about: who follows -/
def swS (fo : Tb) : Tb := fo.map fun p => (p.2, p.1)
theorem swS_mem {fo : Tb} {x y : Str} : (x, y) ∈ swS fo ↔ (y, x) ∈ fo := by
  unfold swS
  rw [List.mem_map]
  constructor
  · rintro ⟨p, hp, e⟩
    cases e
    exact hp
  · intro h
    exact ⟨(y, x), h, rfl⟩
/-- from a lane on, the followers -/
def chF (fo : Tb) : Nat → Str → List Str
  | 0, l => [l]
  | n + 1, l => match getS (swS fo) l with
    | none => [l]
    | some y => l :: chF fo n y
/-- fo joins lanes of L in order -/
structure Jo (bh : Str → List Str) (L : List Str) (fo : Tb) : Prop where
  od : Od bh L
  ln : L.Nodup
  kn : (fo.map (·.1)).Nodup
  vn : (fo.map (·.2)).Nodup
  vs : ∀ v ∈ fo.map (·.2), v ∈ L
  ed : ∀ p ∈ fo, p.1 ∈ bh p.2
section
variable {bh : Str → List Str} {L : List Str} {fo : Tb}
theorem Jo.nx (j : Jo bh L fo) {x y : Str} (h : getS (swS fo) x = some y) : (y, x) ∈ fo ∧ y ∈ bh x ∧ y ∈ L := by
  have h1 := swS_mem.mp (getS_some h)
  have h2 : y ∈ bh x := j.ed _ h1
  exact ⟨h1, h2, j.od.sub x y h2⟩
theorem Jo.ch (j : Jo bh L fo) : ∀ (n : Nat) (l : Str), l ∈ L → (∀ x ∈ chF fo n l, x ∈ L ∧ (x = l ∨ x ∈ bh l)) ∧ (chF fo n l).Pairwise (fun a b => b ∈ bh a)
  | 0, l, hl => ⟨fun x hx => by rw [List.mem_singleton.mp hx]; exact ⟨hl, .inl rfl⟩, List.pairwise_singleton _ _⟩
  | n + 1, l, hl => by
    rw [chF]
    cases h : getS (swS fo) l with
    | none => exact ⟨fun x hx => by rw [List.mem_singleton.mp hx]; exact ⟨hl, .inl rfl⟩, List.pairwise_singleton _ _⟩
    | some y =>
      obtain ⟨_, hy, hyL⟩ := j.nx h
      obtain ⟨h1, h2⟩ := j.ch n y hyL
      have h3 : ∀ x ∈ chF fo n y, x ∈ bh l := fun x hx => by
        rcases (h1 x hx).2 with rfl | z
        · exact hy
        · exact j.od.tra hy z
      refine ⟨fun x hx => ?_, List.pairwise_cons.mpr ⟨h3, h2⟩⟩
      rcases List.mem_cons.mp hx with rfl | hx
      · exact ⟨hl, .inl rfl⟩
      · exact ⟨(h1 x hx).1, .inr (h3 x hx)⟩
/-- those that follow none -/
def hdL (L : List Str) (fo : Tb) : List Str := L.filter fun l => !decide (l ∈ fo.map (·.1))
/-- as many without a follower as without one that they follow -/
theorem Jo.count (j : Jo bh L fo) : (hdL L fo).length = (L.filter fun l => !decide (l ∈ fo.map (·.2))).length := by
  have h1 := filt_len L fun l => decide (l ∈ fo.map (·.1))
  have h2 := filt_len L fun l => decide (l ∈ fo.map (·.2))
  have hk : ∀ x ∈ fo.map (·.1), x ∈ L := fun x hx => by
    obtain ⟨p, hp, rfl⟩ := List.mem_map.mp hx
    exact j.od.sub p.2 p.1 (j.ed p hp)
  have eq : ∀ ks : List Str, ks.Nodup → (∀ x ∈ ks, x ∈ L) → (L.filter fun l => decide (l ∈ ks)).length = ks.length := fun ks hn hs =>
    Nat.le_antisymm (nd_sub_len (j.ln.filter _) fun x hx => of_decide_eq_true (List.mem_filter.mp hx).2) (nd_sub_len hn fun x hx => List.mem_filter.mpr ⟨hs x hx, decide_eq_true hx⟩)
  have e1 := eq _ j.kn hk
  have e2 := eq _ j.vn j.vs
  rw [List.length_map] at e1 e2
  unfold hdL
  omega
end
/-- a state of the search over L -/
structure JOk (L : List Str) (s : Js) : Prop where
  kn : (s.fo.map (·.1)).Nodup
  ks : ∀ x ∈ s.fo.map (·.1), x ∈ L
  vs : ∀ x ∈ s.fo.map (·.2), x ∈ L
  tn : s.tr.Nodup
  ts : ∀ x ∈ s.tr, x ∈ L
theorem JOk.put {L : List Str} {s : Js} (h : JOk L s) {o u : Str} (ho : o ∈ L) (hu : u ∈ L) : JOk L ⟨putS s.fo o u, s.tr⟩ := by
  refine ⟨putS_nd h.kn, fun x hx => ?_, fun x hx => ?_, h.tn, h.ts⟩
  · rcases putS_has.mp hx with rfl | hx
    · exact ho
    · exact h.ks x hx
  · obtain ⟨p, hp, rfl⟩ := List.mem_map.mp hx
    rcases putS_mem (x := p.1) (w := p.2) hp with ⟨_, e⟩ | hp
    · rw [e]; exact hu
    · exact h.vs _ (List.mem_map.mpr ⟨_, hp, rfl⟩)
theorem JOk.len {L : List Str} {s : Js} (h : JOk L s) : s.tr.length ≤ L.length ∧ s.fo.length ≤ L.length := by
  refine ⟨nd_sub_len h.tn h.ts, ?_⟩
  have := nd_sub_len h.kn h.ks
  rwa [List.length_map] at this
end DL

/-! EX: two own objects of one class and an operator (own work). -/
namespace DL
open PySem L2 PySem.W
/-! ### x op y, both of one class of the text -/
section
variable {X : Cx} {CX : CXT} {k : Nat} {C f : Addr} {fd : FuncData} {ps : List Str} {sp : Sp} {E : XK} {Cc : Ct}
/-- x op= y -/
structure Io2 (K : PySem.W.Frag) (C : Addr) (op : Operator) (f : Addr) : Prop where
  first : selfFirst K C = true
  sm : Sm K C (dunderI op.info.2) f
end
/-! ### the same where what is raised may speak of the slots -/
section
variable {X : Cx} {k : Nat} {C f : Addr} {ps : List Str} {E : L2.St → XK} {Cc : Ct} {l r : Expr} {pos : Pos} {tl tr : TE}
end
/-! ### data -/
section
variable {K : PySem.W.Frag} {B F0 : Hp} {ro : Ro} {ka k1 k2 k3 kr : Cells} {ta : List (V × W)} {td te tf ty tx : TE} {De : Ends} {t u : TS} {w x y : W} {b b2 : Bool} {C : Addr} {fs gs : List (Str × D)} {d : D}
/-- d.get(text, x): d frozen, x data -/
theorem ev_dget2 {s : Str} {ds : List (Key × D)} {z : D} (h : EvD K td ro ka w k1) (l1 : Dk k1 w ds false) (h2 : EvD K ty ro k1 (.val (.str s)) k2) (h3 : EvD K tx ro k2 (.val z) k3) (l2 : Dk k3 w ds false) : EvD K (tDGet2 td ty tx) ro ka (.val ((getT ds (.inr s)).getD z)) k3 := fun B F0 ta sg H Q e q =>
  h B F0 ta sg H _ e fun u H1 e1 => by
    obtain ⟨_, a, xs1, _, _, rfl, r1, _⟩ := e1.dk l1 List.mem_cons_self
    refine ⟨a, rfl, .inl ⟨xs1, r1⟩, h2 B F0 _ sg H1 _ e1 fun v H2 e2 => h3 B F0 _ sg H2 _ e2 fun zz H3 e3 => ?_⟩
    have hv := e3.tm_str (v := v) (i := s) (List.mem_cons_of_mem _ List.mem_cons_self)
    subst hv
    obtain ⟨F, a', xs, g, ef, ea, r2, rk⟩ := e3.dk l2 (List.mem_cons_of_mem _ (List.mem_cons_of_mem _ List.mem_cons_self))
    cases ea
    have pt := (rpk_pt.mp rk).get (.inr s)
    refine ⟨getT xs (.inr s), .inl ⟨xs, .inr s, r2, rfl, rfl⟩, ?_⟩
    have back := ef.held (ta' := ta) fun p hp => List.mem_cons_of_mem _ (List.mem_cons_of_mem _ (List.mem_cons_of_mem _ hp))
    cases hd : getT ds (.inr s) with
    | none =>
      rw [hd] at q
      rw [pt.1 hd]
      exact q _ _ ⟨F, g, back.push (ef.tm (zz, .val z) List.mem_cons_self)⟩
    | some d =>
      obtain ⟨x, hx, rx⟩ := pt.2 d hd
      rw [hd] at q
      rw [hx]
      exact q _ _ ⟨F, g, back.push rx⟩
end
section
variable {K : PySem.W.Frag} {B F0 : Hp} {ro : Ro} {ka k1 k2 k3 kr : Cells} {ta : List (V × W)} {td te tf ty tx : TE} {De De' : Ends} {t u : TS} {w x y : W} {b b2 : Bool} {C C1 : Addr} {fs gs hs : List (Str × D)} {d : D}
end
end DL

/-! EY: patterns as trees, their words, the machine of atoms (own work). -/
namespace DL
open PySem L2 PySem.W
/-- a pattern: an atom (one of some names, or none of them), two behind one another, either, any number, one or none -/
inductive Tr where
  | at (any : Bool) (ns : List Str) | join (a b : Tr) | either (a b : Tr) | rep (a : Tr) | opt (a : Tr)
def kdS : Bool → Str
  | true => "any"
  | false => "none"
/-- as the program holds it (names a tuple), as the law holds it (names a list) -/
def Tr.d (law : Bool) : Tr → D
  | .at k ns => .tup [.str (kdS k), if law then .lst (stD ns) else .tup (stD ns)]
  | .join a b => .tup [.str "join", a.d law, b.d law]
  | .either a b => .tup [.str "either", a.d law, b.d law]
  | .rep a => .tup [.str "repeat", a.d law]
  | .opt a => .tup [.str "option", a.d law]
/-- nested operators -/
def Tr.dep : Tr → Nat
  | .at _ _ => 0
  | .join a b => max a.dep b.dep + 1
  | .either a b => max a.dep b.dep + 1
  | .rep a => a.dep + 1
  | .opt a => a.dep + 1
/-- an atom takes a name -/
def atB (p : Bool × List Str) (x : Str) : Bool := decide (x ∈ p.2) == p.1
/-- any number of words one behind another -/
inductive Str_ (P : List Str → Prop) : List Str → Prop where
  | nil : Str_ P []
  | snoc {u z : List Str} (h : Str_ P u) (hz : P z) : Str_ P (u ++ z)
/-- the machine: atoms, first and last ones, pairs, has it the empty word -/
structure Mc where
  at_ : List (Bool × List Str)
  fi : List Nat
  la : List Nat
  pr : List (Nat × Nat)
  op : Bool
def crN (xs ys : List Nat) : List (Nat × Nat) := xs.flatMap fun x => ys.map fun y => (x, y)
def mcT : Tr → Nat → Mc
  | .at k ns, s => ⟨[(k, ns)], [s], [s], [], false⟩
  | .rep a, s => let m := mcT a s; ⟨m.at_, m.fi, m.la, m.pr ++ crN m.la m.fi, true⟩
  | .opt a, s => let m := mcT a s; ⟨m.at_, m.fi, m.la, m.pr, true⟩
  | .either a b, s => let m := mcT a s; let n := mcT b (s + m.at_.length); ⟨m.at_ ++ n.at_, m.fi ++ n.fi, m.la ++ n.la, m.pr ++ n.pr, m.op || n.op⟩
  | .join a b, s => let m := mcT a s; let n := mcT b (s + m.at_.length)
    ⟨m.at_ ++ n.at_, if m.op then m.fi ++ n.fi else m.fi, if n.op then m.la ++ n.la else n.la, m.pr ++ n.pr ++ crN m.la n.fi, m.op && n.op⟩
/-- a way through the machine that reads w and ends at an atom -/
inductive Pth (T : Nat → Str → Bool) (fi : List Nat) (pr : List (Nat × Nat)) : List Str → Nat → Prop where
  | one {a : Nat} {x : Str} (h : a ∈ fi) (t : T a x = true) : Pth T fi pr [x] a
  | more {w : List Str} {a b : Nat} {x : Str} (h : Pth T fi pr w a) (hp : (a, b) ∈ pr) (t : T b x = true) : Pth T fi pr (w ++ [x]) b
theorem Pth.ne {T : Nat → Str → Bool} {fi : List Nat} {pr : List (Nat × Nat)} {w : List Str} {a : Nat} (h : Pth T fi pr w a) : w ≠ [] := by
  cases h <;> simp
/-- atoms within lo ≤ .. < hi -/
structure McR (m : Mc) (lo hi : Nat) : Prop where
  fi : ∀ a ∈ m.fi, lo ≤ a ∧ a < hi
  la : ∀ a ∈ m.la, lo ≤ a ∧ a < hi
  pr : ∀ p ∈ m.pr, (lo ≤ p.1 ∧ p.1 < hi) ∧ lo ≤ p.2 ∧ p.2 < hi
section
variable {T : Nat → Str → Bool} {fi fi2 fi' : List Nat} {pr pr2 pr' : List (Nat × Nat)} {w u v : List Str} {a c : Nat}
theorem Pth.mono (h : Pth T fi pr w c) (h1 : ∀ a ∈ fi, a ∈ fi') (h2 : ∀ p ∈ pr, p ∈ pr') : Pth T fi' pr' w c := by
  induction h with
  | one h t => exact .one (h1 _ h) t
  | more h hp t ih => exact .more ih (h2 _ hp) t
end
/-! ### the machine run -/
def tkM (m : Mc) (a : Nat) (x : Str) : Bool := match m.at_[a]? with
  | some p => atB p x
  | none => false
def behM (m : Mc) (ps : List Nat) (a : Nat) : Bool := ps.any fun p => decide ((p, a) ∈ m.pr)
def startM (m : Mc) (x : Str) : List Nat := m.fi.filter fun a => tkM m a x
def afterM (m : Mc) (ps : List Nat) (x : Str) : List Nat := (List.range m.at_.length).filter fun a => tkM m a x && behM m ps a
def doneM (m : Mc) (ps : List Nat) : Bool := ps.any fun p => decide (p ∈ m.la)
def runM (m : Mc) : List Str → List Nat
  | [] => []
  | x :: r => r.foldl (afterM m) (startM m x)
theorem run_snoc {m : Mc} {w : List Str} {x : Str} (h : w ≠ []) : runM m (w ++ [x]) = afterM m (runM m w) x := by
  cases w with
  | nil => exact absurd rfl h
  | cons y r =>
    show (r ++ [x]).foldl _ _ = _
    rw [List.foldl_append]
    rfl
end DL

/-! EZ: pairs of numbers as keys (own work). -/
namespace DL
open PySem L2 PySem.W
section
variable {K : PySem.W.Frag} {B F F0 : Hp} {ro : Ro} {ka k1 k2 k3 kr : Cells} {ta : List (V × W)} {sg : L2.St} {H H' : Hp} {te tf tg td ty tk tv : TE} {tt : TT} {w : W} {a : Addr} {b : Bool}
end
end DL

/-! FA: a list comprehension with two fors, by data, for the library's reading tLc2 (own work). -/
namespace DL
open PySem L2 PySem.W
section
variable {K : PySem.W.Frag} {B F F0 : Hp} {ro : Ro} {ka k1 k2 k3 kr : Cells} {ta : List (V × W)} {sg : L2.St} {H H' : Hp} {te : TE}
end
end DL

/-! FB: machines as data (own work). -/
namespace DL
open PySem L2 PySem.W
def nmD (xs : List Nat) : List D := xs.map fun n : Nat => D.int (n : Int)
structure Fits (m : Mc) : Prop where
  a : m.at_.length ≤ 300
  f : m.fi.length ≤ 300
  l : m.la.length ≤ 300
  p : m.pr.length ≤ 90000
/-- a pattern small enough for its machine, and so are its parts -/
def Tr.sm : Tr → Prop
  | .at k ns => ns.length ≤ 1000
  | .join a b => a.sm ∧ b.sm ∧ ∀ s, Fits (mcT (.join a b) s)
  | .either a b => a.sm ∧ b.sm ∧ ∀ s, Fits (mcT (.either a b) s)
  | .rep a => a.sm ∧ ∀ s, Fits (mcT (.rep a) s)
  | .opt a => a.sm ∧ ∀ s, Fits (mcT (.opt a) s)
theorem Tr.sm.fits {t : Tr} (h : t.sm) (s : Nat) : Fits (mcT t s) := by
  cases t with
  | «at» k ns => exact ⟨by show 1 ≤ 300; decide, by show 1 ≤ 300; decide, by show 1 ≤ 300; decide, by show 0 ≤ 90000; decide⟩
  | join a b => exact h.2.2 s
  | either a b => exact h.2.2 s
  | rep a => exact h.2 s
  | opt a => exact h.2 s
/-! sizes -/
def Tr.ats : Tr → Nat
  | .at _ _ => 1
  | .join a b => a.ats + b.ats
  | .either a b => a.ats + b.ats
  | .rep a => a.ats
  | .opt a => a.ats
theorem mc_at_len : ∀ (t : Tr) (s : Nat), (mcT t s).at_.length = t.ats
  | .at _ _, _ => rfl
  | .rep a, s => mc_at_len a s
  | .opt a, s => mc_at_len a s
  | .either a b, s => by
    show (_ ++ _ : List _).length = _
    rw [List.length_append, mc_at_len a, mc_at_len b]
    rfl
  | .join a b, s => by
    show (_ ++ _ : List _).length = _
    rw [List.length_append, mc_at_len a, mc_at_len b]
    rfl
/-- all atoms hold few names -/
def Tr.few : Tr → Prop
  | .at _ ns => ns.length ≤ 1000
  | .join a b => a.few ∧ b.few
  | .either a b => a.few ∧ b.few
  | .rep a => a.few
  | .opt a => a.few
section
variable {K : PySem.W.Frag} {ro : Ro} {ka k1 k2 : Cells} {te tf : TE}
theorem En.freeze_t {B F0 : Hp} {ta : List (V × W)} {sg : L2.St} {H : Hp} {a : Addr} {ds : List (List Key × D)} (e : En K B F0 ro (ka ++ [(a, .dit ds)]) ta sg H) : En K B F0 ro ka ((.ref a, .val (.dit ds)) :: ta) sg H := by
  obtain ⟨F, g, e⟩ := e
  obtain ⟨fa, ba, xs, ha, rl⟩ := e.ce (a, .dit ds) (by simp)
  have gg : Gr B F (upd F a (.dT xs)) := ⟨Sub.new fa, fun b h1 h2 => by
    have ne : b ≠ a := fun q => h2 (q ▸ ba)
    rw [upd_ne ne]
    exact h1⟩
  have nd2 := e.nd
  rw [List.map_append, List.nodup_append] at nd2
  refine ⟨upd F a (.dT xs), g.trans gg, ⟨fun b u h => ?_, fun b u h => ?_, e.fr, nd2.1, fun q hq => ?_, e.ln, fun i w h => ?_, fun q hq => ?_⟩⟩
  · by_cases hb : b = a
    · subst hb; rw [upd_same] at h; cases h; rfl
    · rw [upd_ne hb] at h; exact e.nz b u h
  · by_cases hb : b = a
    · subst hb; rw [upd_same] at h; cases h; exact .inl ha
    · rw [upd_ne hb] at h; exact e.fz b u h
  · obtain ⟨h1, h2, h3⟩ := e.ce q (List.mem_append_left _ hq)
    have nq : q.1 ≠ a := fun z => nd2.2.2 q.1 (List.mem_map.mpr ⟨q, hq, rfl⟩) a (by simp) z
    exact ⟨by rw [upd_ne nq]; exact h1, h2, ndok_gr e.nz gg h3⟩
  · obtain ⟨v, h1, h2⟩ := e.sl i w h
    exact ⟨v, h1, wok_gr e.nz gg h2⟩
  · rcases List.mem_cons.mp hq with rfl | hq
    · exact ⟨a, xs, rfl, .inl upd_same, RpT.mono gg.sub.exz e.nz _ _ rl⟩
    · exact wok_gr e.nz gg (e.tm q hq)
theorem EvN.dit {ds : List (List Key × D)} (h : EvN K te ro ka (.dit ds) k1) : EvD K te ro ka (.val (.dit ds)) k1 := fun B F0 ta sg H Q e q => h B F0 ta sg H Q e fun a H1 e1 => q _ _ e1.freeze_t
end
section
variable {K : PySem.W.Frag} {ro : Ro} {ka k1 k2 : Cells} {te tf : TE} {y : W}
end
theorem EvI.ws {K : PySem.W.Frag} {wi : TI} {ro : Ro} {ka k1 : Cells} {ws ws' : List W} {C : Cells → Prop} (h : EvI K wi ro ka ws C k1) (e : ws = ws') : EvI K wi ro ka ws' C k1 := e ▸ h
/-- the parts of a pattern that is no atom -/
def Tr.parts : Tr → List Tr
  | .at _ _ => []
  | .join a b => [a, b]
  | .either a b => [a, b]
  | .rep a => [a]
  | .opt a => [a]
def Tr.tag : Tr → Str
  | .at k _ => kdS k
  | .join _ _ => "join"
  | .either _ _ => "either"
  | .rep _ => "repeat"
  | .opt _ => "option"
theorem d_parts {t : Tr} {b : Bool} (h : ∀ k ns, t ≠ .at k ns) : t.d b = .tup (.str t.tag :: t.parts.map (Tr.d b)) := by
  cases t with
  | «at» k ns => exact absurd rfl (h k ns)
  | _ => rfl
theorem dep_parts {t p : Tr} (h : p ∈ t.parts) : p.dep < t.dep := by
  cases t with
  | «at» k ns => cases h
  | join a b =>
    show p.dep < max a.dep b.dep + 1
    rcases List.mem_cons.mp h with e | h2
    · subst e; omega
    · rw [List.mem_singleton.mp h2]; omega
  | either a b =>
    show p.dep < max a.dep b.dep + 1
    rcases List.mem_cons.mp h with e | h2
    · subst e; omega
    · rw [List.mem_singleton.mp h2]; omega
  | rep a =>
    show p.dep < a.dep + 1
    rw [List.mem_singleton.mp h]; omega
  | opt a =>
    show p.dep < a.dep + 1
    rw [List.mem_singleton.mp h]; omega
theorem tag_no {t : Tr} (h : ∀ k ns, t ≠ .at k ns) : ((t.tag == ("any" : Str)) || (t.tag == ("none" : Str))) = false := by
  cases t with
  | «at» k ns => exact absurd rfl (h k ns)
  | _ => rfl
end DL

/-! FC: where the words of a pattern end (own work). -/
namespace DL
open PySem L2 PySem.W
/-- steps one behind another -/
inductive Stp (R : Nat → Nat → Prop) (s : Nat) : Nat → Prop where
  | nil : Stp R s s
  | snoc {m k : Nat} (h : Stp R s m) (hr : R m k) : Stp R s k
end DL

/-! FD: {x: True for x in xs}, xs a list of tuples: the library's DictComp_goesN with the hand layer's state as what holds at each turn (own work). -/
namespace DL
open PySem L2 PySem.W PyProof.Rows
section
variable {X : Cx}
end
end DL
namespace DL
open PySem L2 PySem.W
section
variable {K : PySem.W.Frag} {B F F0 : Hp} {ro : Ro} {ka k1 k2 : Cells} {ta : List (V × W)} {sg : L2.St} {H H' : Hp} {te : TE}
end
end DL

/-! FE: the ends of a pattern's words, as the law counts them (own work). -/
namespace DL
open PySem L2 PySem.W
/-- the places not there yet, appended -/
def addN (acc : List Nat) (ps : List Nat) : List Nat := ps.foldl (fun acc p => if p ∈ acc then acc else acc ++ [p]) acc
theorem addN_cons (acc : List Nat) (p : Nat) (ps : List Nat) : addN acc (p :: ps) = addN (if p ∈ acc then acc else acc ++ [p]) ps := rfl
theorem addN_ext (ps : List Nat) : ∀ acc, ∃ r, addN acc ps = acc ++ r := by
  induction ps with
  | nil => exact fun acc => ⟨[], (List.append_nil _).symm⟩
  | cons p ps ih =>
    intro acc
    rw [addN_cons]
    split
    · exact ih acc
    · obtain ⟨r, e⟩ := ih (acc ++ [p])
      exact ⟨p :: r, by rw [e, List.append_assoc]; rfl⟩
theorem addN_mem {x : Nat} (ps : List Nat) : ∀ acc, x ∈ addN acc ps ↔ x ∈ acc ∨ x ∈ ps := by
  induction ps with
  | nil => exact fun acc => by simp [addN]
  | cons p ps ih =>
    intro acc
    rw [addN_cons, ih]
    split
    · rename_i h
      simp only [List.mem_cons]
      constructor
      · rintro (z | z)
        · exact .inl z
        · exact .inr (.inr z)
      · rintro (z | rfl | z)
        · exact .inl z
        · exact .inl h
        · exact .inr z
    · simp only [List.mem_append, List.mem_cons, List.not_mem_nil, or_false]
      rw [or_assoc]
theorem addN_nodup (ps : List Nat) : ∀ acc, acc.Nodup → (addN acc ps).Nodup := by
  induction ps with
  | nil => exact fun acc h => h
  | cons p ps ih =>
    intro acc h
    rw [addN_cons]
    split
    · exact ih acc h
    · rename_i hp
      refine ih _ (List.nodup_append.mpr ⟨h, by simp, fun a ha b hb => ?_⟩)
      rw [List.mem_singleton.mp hb]
      exact fun z => hp (z ▸ ha)
structure RepI (f : Nat → List Nat) (L s n : Nat) (found : List Nat) (i : Nat) : Prop where
  nd : found.Nodup
  le : ∀ x ∈ found, x ≤ L
  st : s ∈ found
  sound : ∀ x ∈ found, Stp (fun m k => k ∈ f m) s x
  shut : ∀ j x, j < i → found[j]? = some x → ∀ k ∈ f x, k ∈ found
  at_ : i ≤ found.length
  fuel : L + 2 ≤ n + i
theorem RepI.next {f : Nat → List Nat} {L s n : Nat} {found : List Nat} {i p : Nat} (bd : ∀ m ≤ L, ∀ k ∈ f m, k ≤ L) (h : RepI f L s (n + 1) found i) (hp : found[i]? = some p) : RepI f L s n (addN found (f p)) (i + 1) := by
  have mp := List.mem_of_getElem? hp
  obtain ⟨r, er⟩ := addN_ext (f p) found
  have lt := (List.getElem?_eq_some_iff.mp hp).1
  refine ⟨addN_nodup _ _ h.nd, fun x hx => ?_, (addN_mem _ _).mpr (.inl h.st), fun x hx => ?_, fun j x hj hx k hk => ?_, ?_, by have := h.fuel; omega⟩
  · rcases (addN_mem _ _).mp hx with z | z
    · exact h.le x z
    · exact bd p (h.le p mp) x z
  · rcases (addN_mem _ _).mp hx with z | z
    · exact h.sound x z
    · exact .snoc (h.sound p mp) z
  · by_cases e : j = i
    · subst e
      rw [er, List.getElem?_append_left lt, hp] at hx
      cases hx
      exact (addN_mem _ _).mpr (.inr hk)
    · have lj : j < i := by omega
      rw [er, List.getElem?_append_left (by omega)] at hx
      exact (addN_mem _ _).mpr (.inl (h.shut j x lj hx k hk))
  · rw [er, List.length_append]
    omega
theorem Stp.imp {R S : Nat → Nat → Prop} {s L : Nat} (hs : s ≤ L) (hR : ∀ m k, m ≤ L → R m k → S m k ∧ k ≤ L) {k : Nat} (h : Stp R s k) : Stp S s k ∧ k ≤ L := by
  induction h with
  | nil => exact ⟨.nil, hs⟩
  | snoc _ hr ih =>
    obtain ⟨h1, h2⟩ := hR _ _ ih.2 hr
    exact ⟨.snoc ih.1 h1, h2⟩
end DL

/-! FF: defs with a star parameter, by contracts about the tuple (own work). -/
namespace DL
open PySem L2 PySem.W PyProof.Rows
/-- a contract about the tuple of all arguments, told by the arguments -/
def CtV (C : Ct) : Ct := fun ws ka out => ∃ ds : List D, ws = ds.map W.val ∧ ds.length ≤ 100000 ∧ C [.val (.tup ds)] ka out
/-- the def at f, which takes any number of arguments, keeps C of their tuple -/
def FnV (P : Program) (w : World) (K : PySem.W.Frag) (mg : Str → Option Value) (base : Heap) (k : Nat) (f : Addr) (C : Ct) : Prop := FnR P w K mg base (L2.CX P w) k f (spC K (CtV C))
section
variable {P : Program} {w : World} {K : PySem.W.Frag} {mg : Str → Option Value} {base : Heap} {f : Addr} {fd : FuncData} {x qual pv : Str} {params : Arguments} {body : List Stmt} {scope : Scope} {N : List Str} {k j : Nat} {C : Ct}
theorem FnV.up (F : FnV P w K mg base j f C) (h : j ≤ k) : FnV P w K mg base k f C := FnR.mono F h
end
section
variable {X : Cx} {k : Nat} {f : Addr} {C : Ct} {E : XK} {x : Str} {p pos : Pos} {e : Expr} {es : List Expr} {t : TA}
end
/-- trees as the law draws them: at each end one to three names, or none behind "none" -/
def niceT : Tr → Prop
  | .at k ns => ns.length ≤ 3 ∧ (k = true → ns ≠ []) ∧ ∀ n ∈ ns, isNm n = true
  | .join a b => niceT a ∧ niceT b
  | .either a b => niceT a ∧ niceT b
  | .rep a => niceT a
  | .opt a => niceT a
end DL

/-! FG: patterns turned about and multiplied (own work). -/
namespace DL
open PySem L2 PySem.W
end DL
namespace DL
open PySem L2 PySem.W
end DL

/-! FH: errors without fields handed on (own work). -/
namespace DL
open PySem L2 PySem.W
section
variable {K : PySem.W.Frag} {B F0 : Hp} {ro : Ro} {ka k1 k2 : Cells} {ta : List (V × W)} {te tf : TE} {tr : TA} {De : Ends} {u : TS} {C1 : Addr} {gs : List (Str × D)} {out : Oc} {E : XK} {w : W}
theorem g_retPX (hX : RxOk K B F0 out E) (h : EvX K te ro ka E C1 gs k2) (o : out (.exc C1 gs) k2) : Gp K B F0 ta (tRet te De) ro ka := fun sg H e => h B F0 ta sg H _ e fun dx H' e' => hX.1 C1 gs k2 dx H' o e'.leaveX
end
end DL

/-! FI: `is not` between truth values (own work). -/
namespace DL
open PySem L2 PySem.W
section
variable {K : PySem.W.Frag} {ro : Ro} {ka k1 k2 : Cells} {te tf : TE}
end
end DL

/-! FJ: dicts whose keys are tuples of any depth: read, asked, written (own work). -/
namespace DL
open PySem L2 PySem.W PyProof.Rows

/-! ### rows -/
/-- keys and values alone -/
def rowN {α : Type} (xs : List (NestedKey × Addr × α)) : List (NestedKey × α) := xs.map fun x => (x.1, x.2.2)
def setA {α : Type} (k : NestedKey) (v : α) (x : NestedKey × Addr × α) : NestedKey × Addr × α := if x.1 = k then (x.1, x.2.1, v) else x
/-- a key that stands keeps its place and its own thing -/
def putA {α : Type} (xs : List (NestedKey × Addr × α)) (k : NestedKey) (b : Addr) (v : α) : List (NestedKey × Addr × α) :=
  if hasT (rowN xs) k = true then xs.map (setA k v) else xs ++ [(k, b, v)]
section
variable {α : Type}
end
/-- a row of values as they are seen, as they lie -/
abbrev SeesN : List (NestedKey × Addr × V) → List (NestedKey × Addr × Value) → Prop := Paired fun p q => p.1 = q.1 ∧ p.2.1 = q.2.1 ∧ RelV p.2.2 q.2.2
theorem SeesN.has {xs : List (NestedKey × Addr × V)} {qs : List (NestedKey × Addr × Value)} (r : SeesN xs qs) (k : NestedKey) :
    (getT (rowN xs) k = none ∧ hasT (rowN xs) k = false ∧ atKey qs k = none) ∨ ∃ v p, getT (rowN xs) k = some v ∧ hasT (rowN xs) k = true ∧ atKey qs k = some p ∧ RelV v p.2 := by
  unfold SeesN at r
  induction r with
  | nil => exact .inl ⟨rfl, rfl, rfl⟩
  | @cons p q ps qs h t ih =>
    obtain ⟨h1, h2, h3⟩ := h
    by_cases e : p.1 = k
    · refine .inr ⟨p.2.2, q.2, ?_, ?_, ?_, h3⟩
      · show getT ((p.1, p.2.2) :: rowN ps) k = _
        simp [getT, e]
      · show hasT ((p.1, p.2.2) :: rowN ps) k = _
        simp [hasT, e]
      · have e2 : q.1 = k := h1.symm.trans e
        simp [atKey, e2]
    · have e2 : ¬ q.1 = k := fun z => e (h1.trans z)
      have a1 : getT (rowN (p :: ps)) k = getT (rowN ps) k := by
        show getT ((p.1, p.2.2) :: rowN ps) k = _
        simp [getT, e]
      have a2 : hasT (rowN (p :: ps)) k = hasT (rowN ps) k := by
        show hasT ((p.1, p.2.2) :: rowN ps) k = _
        simp [hasT, e]
      have a3 : atKey (q :: qs) k = atKey qs k := by simp [atKey, e2]
      rw [a1, a2, a3]
      exact ih
theorem SeesN.put {xs : List (NestedKey × Addr × V)} {qs : List (NestedKey × Addr × Value)} (r : SeesN xs qs) (k : NestedKey) (b : Addr) {v : V} {u : Value} (rv : RelV v u) : SeesN (putA xs k b v) (storedH qs k b u) := by
  have hh : hasT (rowN xs) k = (atKey qs k).isSome := by
    rcases r.has k with ⟨_, h, h2⟩ | ⟨_, _, _, h, h2, _⟩ <;> rw [h, h2] <;> rfl
  unfold putA storedH
  rw [hh]
  split
  · unfold SeesN at r
    clear hh
    rename_i hx
    clear hx
    induction r with
    | nil => exact .nil
    | @cons p q ps qs h t ih =>
      obtain ⟨h1, h2, h3⟩ := h
      refine .cons ?_ ih
      unfold putAt setA
      by_cases e : p.1 = k
      · rw [if_pos e, if_pos (h1.symm.trans e)]
        exact ⟨h1, h2, rv⟩
      · rw [if_neg e, if_neg fun z => e (h1.trans z)]
        exact ⟨h1, h2, h3⟩
  · exact Paired.snoc r ⟨rfl, rfl, rv⟩

/-- all its keys stand where they are told -/
def NAt (K : PySem.W.Frag) (H : Hp) (w : World) (a : Addr) (xs : List (NestedKey × Addr × V)) : Prop := Rd H a (DnO w a xs) ∧ ∀ x ∈ xs, RkN K H x.1 (.ref x.2.1) ∧ x.1.depth ≤ 8
section
variable {X : Cx} {pins : List (Addr × Obj)} {σ : L2.St} {H : Hp} {s : Shared} {a b : Addr} {xs : List (NestedKey × Addr × V)}
mutual
theorem key_is (I : L2.Inv X pins σ H s) : ∀ (k : NestedKey) (v : V) (u : Value), RkN X.K H k v → RelV v u → NestedIs s.heap k u
  | .none, _, _, h, r => by
    subst h
    cases (show _ = Value.none from r)
    exact .none
  | .num i, _, _, h, r => by
    subst h
    obtain ⟨t, rfl⟩ := (show ∃ t, _ = Value.int i t from r)
    exact .int i t
  | .text x, _, _, h, r => by
    subst h
    obtain ⟨t, rfl⟩ := (show ∃ t, _ = Value.str x t from r)
    exact .text x t
  | .tup ks, _, _, h, r => by
    obtain ⟨c, ys, rfl, h1, h2⟩ := h
    cases (show _ = Value.ref c from r)
    obtain ⟨its, rel, ⟨o, ho, hc, n, hd⟩, _⟩ := I.tuple h1
    exact .tup ho hc hd (by simpa using keys_are I ks ys its h2 rel)
theorem keys_are (I : L2.Inv X pins σ H s) : ∀ (ks : List NestedKey) (vs : List V) (us : List Value), RkL X.K H ks vs → Vals vs us → NestedAll s.heap ks us
  | [], _, us, h, r => by
    subst h
    cases r
    exact .nil
  | k :: ks, _, us, h, r => by
    obtain ⟨x, ys, rfl, h1, h2⟩ := h
    cases r with
    | cons r1 r2 => exact .cons (key_is I k x _ h1 r1) (keys_are I ks ys _ h2 r2)
end
end

section
variable {X : Cx} {o i value : Expr} {pos pos' : Pos} {td ty tv tk : TE}
end
end DL

/-! FK: dicts with nested keys, by data (own work). -/
namespace DL
open PySem L2 PySem.W

/-! ### keys as data -/
mutual
def nkD : NestedKey → D
  | .none => .non
  | .num i => .int i
  | .text s => .str s
  | .tup ks => .tup (nkDs ks)
def nkDs : List NestedKey → List D
  | [] => []
  | k :: ks => nkD k :: nkDs ks
end
section
variable {K : PySem.W.Frag} {F : Hp}
mutual
theorem rk_iff : ∀ (k : NestedKey) (v : V), RkN K F k v ↔ Rp K F (nkD k) v
  | .none, _ => Iff.rfl
  | .num _, _ => Iff.rfl
  | .text _, _ => Iff.rfl
  | .tup ks, v => ⟨fun ⟨a, xs, e, h1, h2⟩ => ⟨a, xs, e, h1, (rks_iff ks xs).mp h2⟩, fun ⟨a, xs, e, h1, h2⟩ => ⟨a, xs, e, h1, (rks_iff ks xs).mpr h2⟩⟩
theorem rks_iff : ∀ (ks : List NestedKey) (vs : List V), RkL K F ks vs ↔ RpL K F (nkDs ks) vs
  | [], _ => Iff.rfl
  | k :: ks, vs => ⟨fun ⟨x, ys, e, h1, h2⟩ => ⟨x, ys, e, (rk_iff k x).mp h1, (rks_iff ks ys).mp h2⟩, fun ⟨x, ys, e, h1, h2⟩ => ⟨x, ys, e, (rk_iff k x).mpr h1, (rks_iff ks ys).mpr h2⟩⟩
end
end
/-! ### rows -/
section
variable {K : PySem.W.Frag} {F : Hp}
theorem rpn_keys : ∀ {ds : List (NestedKey × D)} {xs : List (NestedKey × Addr × V)}, RpN K F ds xs → ∀ x ∈ xs, RkN K F x.1 (.ref x.2.1) ∧ x.1.depth ≤ 8
  | [], xs, h => by rw [show xs = [] from h]; exact fun _ hx => nomatch hx
  | (k, d) :: ds, xs, h => by
    obtain ⟨b, x, ys, rfl, h0, h1, h2⟩ := h
    intro y hy
    rcases List.mem_cons.mp hy with rfl | hy
    · exact h0
    · exact rpn_keys h2 y hy
end

/-! ### read and written -/
/-- w is a dict of ds with nested keys; b: viewed -/
inductive Dn (wd : World) (ka : Cells) : W → List (NestedKey × D) → Bool → Prop where
  | v {ds : List (NestedKey × D)} : Dn wd ka (.val (.din wd ds)) ds false
  | w {ds : List (NestedKey × D)} : Dn wd ka (.vw (.din wd ds)) ds true
  | ce {a : Addr} {ds : List (NestedKey × D)} (j : Nat) (h : ka[j]? = some (a, .din wd ds)) : Dn wd ka (.val (.adr a)) ds false
section
variable {wd : World} {K : PySem.W.Frag} {B B' F F' F0 : Hp} {ro ro' : Ro} {ka k1 k2 k3 kr : Cells} {ta : List (V × W)} {sg sg' : L2.St} {H H' : Hp} {te tf tg td ty tk tv : TE} {w x y z : W} {n m : Nd} {a : Addr} {b : Bool} {De : Ends} {t u : TS} {ds : List (NestedKey × D)} {k : NestedKey} {ks : List NestedKey} {d : D}
theorem Dn.get {v : V} (l : Dn wd ka w ds b) (e : EnF K B F ro ka ta sg H) (h : WOk K B F v w) : ∃ a xs, v = .ref a ∧ NAt K H wd a xs ∧ RpN K (if b then uni B F else F) ds xs := by
  cases l with
  | v =>
    obtain ⟨a, xs, rfl, h1, h2⟩ := h
    exact ⟨a, xs, rfl, ⟨e.fz.rd e.nz h1, fun x hx => ⟨RkN.mono e.fz e.nz _ _ (rpn_keys h2 x hx).1, (rpn_keys h2 x hx).2⟩⟩, h2⟩
  | w =>
    obtain ⟨a, xs, rfl, h1, h2⟩ := h
    have z := uni_exz e.fz e.fr
    have nz := uni_nz (B := B) e.nz
    exact ⟨a, xs, rfl, ⟨z.rd nz h1, fun x hx => ⟨RkN.mono z nz _ _ (rpn_keys h2 x hx).1, (rpn_keys h2 x hx).2⟩⟩, h2⟩
  | ce j hj =>
    obtain rfl : v = .ref _ := h
    obtain ⟨_, _, xs, h1, h2⟩ := e.ce _ (List.mem_of_getElem? hj)
    exact ⟨_, xs, rfl, ⟨.inl h1, fun x hx => ⟨RkN.mono e.fz e.nz _ _ (rpn_keys h2 x hx).1, (rpn_keys h2 x hx).2⟩⟩, h2⟩
/-- an expression that makes a new cell, as one that comes back with its place -/
theorem EvN.adr (h : EvN K te ro ka n k1) : EvR K te ro ka fun w k => ∃ c, w = .val (.adr c) ∧ k = k1 ++ [(c, n)] := fun B F0 ta sg H Q e q =>
  h B F0 ta sg H Q e fun c H' e1 => q _ _ _ _ ⟨c, rfl, rfl⟩ (e1.tmA c)
/-- a dict of nested keys, frozen -/
theorem En.freeze_n (e : En K B F0 ro (ka ++ [(a, .din wd ds)]) ta sg H) : En K B F0 ro ka ((.ref a, .val (.din wd ds)) :: ta) sg H := by
  obtain ⟨F, g, e⟩ := e
  obtain ⟨fa, ba, xs, ha, rl⟩ := e.ce (a, .din wd ds) (by simp)
  have gg : Gr B F (upd F a (DnO wd a xs)) := ⟨Sub.new fa, fun b h1 h2 => by
    have ne : b ≠ a := fun q => h2 (q ▸ ba)
    rw [upd_ne ne]
    exact h1⟩
  have nd2 := e.nd
  rw [List.map_append, List.nodup_append] at nd2
  refine ⟨_, g.trans gg, ⟨fun b u h => ?_, fun b u h => ?_, e.fr, nd2.1, fun q hq => ?_, e.ln, fun i w h => ?_, fun q hq => ?_⟩⟩
  · by_cases hb : b = a
    · subst hb; rw [upd_same] at h; cases h; rfl
    · rw [upd_ne hb] at h; exact e.nz b u h
  · by_cases hb : b = a
    · subst hb; rw [upd_same] at h; cases h; exact .inl ha
    · rw [upd_ne hb] at h; exact e.fz b u h
  · obtain ⟨h1, h2, h3⟩ := e.ce q (List.mem_append_left _ hq)
    have nq : q.1 ≠ a := fun z => nd2.2.2 q.1 (List.mem_map.mpr ⟨q, hq, rfl⟩) a (by simp) z
    exact ⟨by rw [upd_ne nq]; exact h1, h2, ndok_gr e.nz gg h3⟩
  · obtain ⟨v, h1, h2⟩ := e.sl i w h
    exact ⟨v, h1, wok_gr e.nz gg h2⟩
  · rcases List.mem_cons.mp hq with rfl | hq
    · exact ⟨a, xs, rfl, .inl upd_same, RpN.mono gg.sub.exz e.nz _ _ rl⟩
    · exact wok_gr e.nz gg (e.tm q hq)
theorem EvN.din (h : EvN K te ro ka (.din wd ds) k1) : EvD K te ro ka (.val (.din wd ds)) k1 := fun B F0 ta sg H Q e q => h B F0 ta sg H Q e fun a H1 e1 => q _ _ e1.freeze_n
end
end DL

/-! FL: searches by levels in plain Lean; sub-rows; what a machine has begun (own work). -/
namespace DL
open PySem L2 PySem.W

/-! ### sub-rows -/
def subs {α : Type} : List α → List (List α)
  | [] => [[]]
  | x :: xs => subs xs ++ (subs xs).map (x :: ·)
theorem subs_len {α : Type} : ∀ xs : List α, (subs xs).length = 2 ^ xs.length
  | [] => rfl
  | x :: xs => by
    rw [subs, List.length_append, List.length_map, subs_len xs, List.length_cons, Nat.pow_succ]
    omega
theorem flt_subs {α : Type} (p : α → Bool) : ∀ xs : List α, xs.filter p ∈ subs xs
  | [] => List.mem_singleton.mpr rfl
  | x :: xs => by
    rw [subs, List.filter_cons]
    split
    · exact List.mem_append_right _ (List.mem_map.mpr ⟨_, flt_subs p xs, rfl⟩)
    · exact List.mem_append_left _ (flt_subs p xs)
/-- different things out of a row are no more than it -/
theorem nd_sub {α : Type} [DecidableEq α] : ∀ {xs ys : List α}, xs.Nodup → (∀ x ∈ xs, x ∈ ys) → xs.length ≤ ys.length
  | [], _, _, _ => Nat.zero_le _
  | x :: xs, ys, hn, h => by
    have hx := h x List.mem_cons_self
    obtain ⟨h1, h2⟩ := List.nodup_cons.mp hn
    have := nd_sub (ys := ys.erase x) h2 fun y hy => (List.mem_erase_of_ne fun e => by subst e; exact h1 hy).mpr (h y (List.mem_cons_of_mem _ hy))
    rw [List.length_erase_of_mem hx] at this
    have := List.length_pos_of_mem hx
    rw [List.length_cons]
    omega

/-! ### ways along edges that have names -/
section
variable {α : Type} [DecidableEq α]
/-- from s by these names to v -/
inductive Pt (sc : α → List (Str × α)) (s : α) : List Str → α → Prop where
  | nil : Pt sc s [] s
  | snoc {ls : List Str} {x : α} {e : Str × α} (h : Pt sc s ls x) (he : e ∈ sc x) : Pt sc s (ls ++ [e.1]) e.2
/-- a search: the things met, each by a way; the first `at` are done, of the next the edges E -/
structure BIn (sc : α → List (Str × α)) (s : α) (at_ : Nat) (E : List (Str × α)) (qs : List (α × List Str)) : Prop where
  nd : (qs.map (·.1)).Nodup
  ini : qs[0]? = some (s, [])
  pt : ∀ q ∈ qs, Pt sc s q.2 q.1
  mono : ∀ (i j : Nat) (p q : α × List Str), i ≤ j → qs[i]? = some p → qs[j]? = some q → p.2.length ≤ q.2.length
  lev : ∀ c, qs[at_]? = some c → ∀ q ∈ qs, q.2.length ≤ c.2.length + 1
  cl : ∀ (i : Nat) (c : α × List Str), i < at_ → qs[i]? = some c → ∀ e ∈ sc c.1, ∃ q ∈ qs, q.1 = e.2 ∧ q.2.length ≤ c.2.length + 1
  cE : ∀ c, qs[at_]? = some c → ∀ e ∈ E, ∃ q ∈ qs, q.1 = e.2 ∧ q.2.length ≤ c.2.length + 1
variable {sc : α → List (Str × α)} {s : α} {at_ : Nat} {E : List (Str × α)} {qs : List (α × List Str)}
theorem BIn.start (sc : α → List (Str × α)) (s : α) : BIn sc s 0 [] [(s, [])] where
  nd := by simp
  ini := rfl
  pt := fun q hq => by
    rw [List.mem_singleton.mp hq]
    exact .nil
  mono := fun i j p q _ hp hq => by
    have h1 := List.mem_of_getElem? hp
    have h2 := List.mem_of_getElem? hq
    rw [List.mem_singleton.mp h1, List.mem_singleton.mp h2]
    exact Nat.le_refl _
  lev := fun c hc q hq => by
    rw [List.mem_singleton.mp hq]
    exact Nat.zero_le _
  cl := fun i c h => by omega
  cE := fun c _ e he => nomatch he
/-- an edge to what was met -/
theorem BIn.old (b : BIn sc s at_ E qs) {e : Str × α} (h : e.2 ∈ qs.map (·.1)) : BIn sc s at_ (E ++ [e]) qs := { b with
  cE := fun c hc e' he => by
    rcases List.mem_append.mp he with he | he
    · exact b.cE c hc e' he
    · rw [List.mem_singleton.mp he]
      obtain ⟨q, hq, e1⟩ := List.mem_map.mp h
      exact ⟨q, hq, e1, b.lev c hc q hq⟩ }
/-- an edge to a new thing -/
theorem BIn.new (b : BIn sc s at_ E qs) {c : α × List Str} (hc : qs[at_]? = some c) {e : Str × α} (he : e ∈ sc c.1) (h : e.2 ∉ qs.map (·.1)) : BIn sc s at_ (E ++ [e]) (qs ++ [(e.2, c.2 ++ [e.1])]) := by
  have hlt : at_ < qs.length := (List.getElem?_eq_some_iff.mp hc).1
  have old : ∀ {i : Nat} {x : α × List Str}, i < qs.length → (qs ++ [(e.2, c.2 ++ [e.1])])[i]? = some x → qs[i]? = some x := fun hi hx => by rwa [List.getElem?_append_left hi] at hx
  have hc' : ∀ x, (qs ++ [(e.2, c.2 ++ [e.1])])[at_]? = some x → x = c := fun x hx => by
    have := old hlt hx
    rw [hc] at this
    exact (Option.some.inj this).symm
  refine ⟨?_, ?_, fun q hq => ?_, fun i j p q hij hp hq => ?_, fun x hx q hq => ?_, fun i x hi hx e' he' => ?_, fun x hx e' he' => ?_⟩
  · rw [List.map_append, List.nodup_append]
    exact ⟨b.nd, by simp, fun x hx y hy => by
      rw [List.map_cons, List.map_nil, List.mem_singleton] at hy
      rintro rfl
      rw [hy] at hx
      exact h hx⟩
  · rw [List.getElem?_append_left (Nat.lt_of_le_of_lt (Nat.zero_le _) hlt)]
    exact b.ini
  · rcases List.mem_append.mp hq with hq | hq
    · exact b.pt q hq
    · rw [List.mem_singleton.mp hq]
      exact .snoc (b.pt c (List.mem_of_getElem? hc)) he
  · have key : ∀ {k : Nat} {x : α × List Str}, (qs ++ [(e.2, c.2 ++ [e.1])])[k]? = some x → (k < qs.length ∧ qs[k]? = some x) ∨ (k = qs.length ∧ x = (e.2, c.2 ++ [e.1])) := fun {k x} hx => by
      by_cases hk : k < qs.length
      · exact .inl ⟨hk, old hk hx⟩
      · have hk2 := (List.getElem?_eq_some_iff.mp hx).1
        rw [List.length_append, List.length_singleton] at hk2
        have hk3 : k = qs.length := by omega
        subst hk3
        rw [List.getElem?_append_right (Nat.le_refl _), Nat.sub_self] at hx
        exact .inr ⟨rfl, (Option.some.inj hx).symm⟩
    rcases key hp with ⟨h1, hp⟩ | ⟨h1, rfl⟩ <;> rcases key hq with ⟨h2, hq⟩ | ⟨h2, rfl⟩
    · exact b.mono i j p q hij hp hq
    · have := b.lev c hc p (List.mem_of_getElem? hp)
      rw [List.length_append, List.length_singleton]
      exact this
    · omega
    · exact Nat.le_refl _
  · rw [hc' x hx]
    rcases List.mem_append.mp hq with hq | hq
    · exact b.lev c hc q hq
    · rw [List.mem_singleton.mp hq, List.length_append]
      exact Nat.le_refl _
  · obtain ⟨q, hq, r⟩ := b.cl i x hi (old (by omega) hx) e' he'
    exact ⟨q, List.mem_append_left _ hq, r⟩
  · rw [hc' x hx]
    rcases List.mem_append.mp he' with he' | he'
    · obtain ⟨q, hq, r⟩ := b.cE c hc e' he'
      exact ⟨q, List.mem_append_left _ hq, r⟩
    · rw [List.mem_singleton.mp he']
      exact ⟨_, List.mem_append_right _ (List.mem_singleton.mpr rfl), rfl, by rw [List.length_append]; exact Nat.le_refl _⟩
/-- all edges of a thing are done -/
theorem BIn.next (b : BIn sc s at_ E qs) (hE : ∀ c, qs[at_]? = some c → ∀ e ∈ sc c.1, e ∈ E) (hlt : at_ < qs.length) : BIn sc s (at_ + 1) [] qs := by
  obtain ⟨c0, hc0⟩ : ∃ c, qs[at_]? = some c := ⟨_, List.getElem?_eq_getElem hlt⟩
  refine { b with lev := fun c hc q hq => ?_, cl := fun i c hi hc e he => ?_, cE := fun c _ e he => nomatch he }
  · have h1 := b.lev c0 hc0 q hq
    have h2 := b.mono at_ (at_ + 1) c0 c (Nat.le_succ _) hc0 hc
    omega
  · rcases Nat.lt_or_ge i at_ with h | h
    · exact b.cl i c h hc e he
    · have : i = at_ := by omega
      subst this
      exact b.cE c hc e (hE c hc e he)
/-- when all is done, all that can be met was met -/
theorem BIn.all (b : BIn sc s at_ [] qs) (h : qs.length ≤ at_) {ls : List Str} {v : α} (hp : Pt sc s ls v) : v ∈ qs.map (·.1) := by
  induction hp with
  | nil => exact List.mem_map.mpr ⟨_, List.mem_of_getElem? b.ini, rfl⟩
  | @snoc ls x e _ he ih =>
    obtain ⟨q, hq, rfl⟩ := List.mem_map.mp ih
    obtain ⟨i, hi⟩ := List.getElem?_of_mem hq
    have := (List.getElem?_eq_some_iff.mp hi).1
    obtain ⟨q', hq', e3, _⟩ := b.cl i q (by omega) hi e he
    exact List.mem_map.mpr ⟨q', hq', e3⟩
/-- things met out of a row: no more than it has -/
theorem BIn.few (b : BIn sc s at_ E qs) {N : List α} (h0 : s ∈ N) (hN : ∀ x ∈ N, ∀ e ∈ sc x, e.2 ∈ N) : qs.length ≤ N.length := by
  have := nd_sub (ys := N) b.nd fun x hx => by
    obtain ⟨q, hq, rfl⟩ := List.mem_map.mp hx
    have := b.pt q hq
    generalize q.1 = v at this
    generalize q.2 = ls at this
    induction this with
    | nil => exact h0
    | snoc _ he ih => exact hN _ ih _ he
  rwa [List.length_map] at this
end

/-! ### what is begun -/
def begM (m : Mc) (ps : List Nat) (x : Str) : List Nat := ((List.range m.at_.length).filter fun a => decide (a ∈ m.fi) || behM m ps a).filter fun a => tkM m a x
/-- the atoms by which the lane gone last is read -/
def stM (m : Mc) (ls : List Str) : List Nat := ls.foldl (begM m) []
end DL

/-! FM: dicts with nested keys: walked, copied (one entry), set beside the empty one (own work). -/
namespace DL
open PySem L2 PySem.W PyProof.Rows

section
variable {X : Cx} {pins : List (Addr × Obj)} {σ : L2.St} {H : Hp} {s : Shared} {d : Addr} {o : Obj} {xs : List (NestedKey × Addr × V)}
end
section
variable {X : Cx} {o i e tg : Expr} {pos pos' : Pos} {td ty tv tk : TE}
end

section
variable {K : PySem.W.Frag} {B F F0 : Hp} {ro : Ro} {ka k1 k2 k3 kr : Cells} {ta : List (V × W)} {sg : L2.St} {H H' : Hp} {te tf tg tk tv : TE} {tt : TT} {w x y : W} {n : Nd} {a : Addr} {b : Bool} {De : Ends} {u : TS} {wi : TI} {ws : List W}
end

/-! ### by data -/
section
variable {K : PySem.W.Frag} {B F F0 : Hp} {ro : Ro} {ka k1 k2 k3 kr : Cells} {ta : List (V × W)} {sg : L2.St} {H H' : Hp} {te tf tg tk tv : TE} {tt : TT} {w x y z : W} {a : Addr} {b : Bool} {wd : World} {ds : List (NestedKey × D)}
end
end DL

/-! FN: searches by levels of one distance; a machine told by a law (own work). -/
namespace DL
open PySem L2 PySem.W
section
variable {α : Type} [DecidableEq α] {sc : α → List (Str × α)} {s : α} {n : Nat} {L Kn N : List α} {G : α → Prop}
theorem pt_in (h0 : s ∈ N) (hN : ∀ x ∈ N, ∀ e ∈ sc x, e.2 ∈ N) {ls : List Str} {x : α} (h : Pt sc s ls x) : x ∈ N := by
  induction h with
  | nil => exact h0
  | snoc _ he ih => exact hN _ ih _ he
theorem pt_last {ls : List Str} {y : α} (h : Pt sc s ls y) : (ls = [] ∧ y = s) ∨ ∃ us x e, Pt sc s us x ∧ e ∈ sc x ∧ e.2 = y ∧ ls = us ++ [e.1] := by
  cases h with
  | nil => exact .inl ⟨rfl, rfl⟩
  | snoc h he => exact .inr ⟨_, _, _, h, he, rfl, rfl⟩
/-- L is what is met behind n steps and not earlier, Kn what is met behind n steps or earlier -/
structure LvI (sc : α → List (Str × α)) (s : α) (n : Nat) (L Kn : List α) : Prop where
  nd : Kn.Nodup
  sub : ∀ x ∈ L, x ∈ Kn
  ndL : L.Nodup
  pt : ∀ x ∈ L, ∃ ls, ls.length = n ∧ Pt sc s ls x
  rc : ∀ x ∈ Kn, ∃ ls, Pt sc s ls x
  kn : ∀ ls x, Pt sc s ls x → ls.length ≤ n → x ∈ Kn
  lv : ∀ x ∈ Kn, x ∈ L ∨ ∃ ls, ls.length < n ∧ Pt sc s ls x
theorem LvI.start (sc : α → List (Str × α)) (s : α) : LvI sc s 0 [s] [s] where
  nd := List.nodup_cons.mpr ⟨List.not_mem_nil, List.nodup_nil⟩
  ndL := List.nodup_cons.mpr ⟨List.not_mem_nil, List.nodup_nil⟩
  sub := fun _ h => h
  pt := fun x h => ⟨[], rfl, by rw [List.mem_singleton.mp h]; exact .nil⟩
  rc := fun x h => ⟨[], by rw [List.mem_singleton.mp h]; exact .nil⟩
  kn := fun ls x h hl => by
    rcases pt_last h with ⟨_, e⟩ | ⟨us, y, e, _, _, _, e2⟩
    · exact List.mem_singleton.mpr e
    · rw [e2, List.length_append, List.length_singleton] at hl
      omega
  lv := fun x h => .inl h
theorem LvI.next (h : LvI sc s n L Kn) {F : List α} (hF : ∀ y, y ∈ F ↔ ∃ x ∈ L, ∃ e ∈ sc x, e.2 = y) (nF : F.Nodup) {p : α → Bool} (hp : ∀ y, p y = true ↔ y ∉ Kn) : LvI sc s (n + 1) (F.filter p) (Kn ++ F.filter p) := by
  have new : ∀ x, x ∈ F.filter p ↔ x ∈ F ∧ x ∉ Kn := fun x => by rw [List.mem_filter, hp]
  have step : ∀ y ∈ F, ∃ ls, ls.length = n + 1 ∧ Pt sc s ls y := fun y hy => by
    obtain ⟨x, hx, e, he, rfl⟩ := (hF y).mp hy
    obtain ⟨ls, hl, hp⟩ := h.pt x hx
    exact ⟨ls ++ [e.1], by rw [List.length_append, hl]; rfl, hp.snoc he⟩
  refine ⟨?_, fun x hx => List.mem_append_right _ hx, nF.filter _, fun x hx => step x ((new x).mp hx).1, fun x hx => ?_, fun ls x hp hl => ?_, fun x hx => ?_⟩
  · rw [List.nodup_append]
    exact ⟨h.nd, nF.filter _, fun x hx y hy e => ((new y).mp hy).2 (e ▸ hx)⟩
  · rcases List.mem_append.mp hx with hx | hx
    · exact h.rc x hx
    · obtain ⟨ls, _, hp⟩ := step x ((new x).mp hx).1
      exact ⟨ls, hp⟩
  · by_cases hx : x ∈ Kn
    · exact List.mem_append_left _ hx
    · refine List.mem_append_right _ ((new x).mpr ⟨?_, hx⟩)
      rcases pt_last hp with ⟨e1, e2⟩ | ⟨us, y, e, hy, he, e2, e3⟩
      · exact absurd (h.kn [] x (by rw [e2]; exact .nil) (Nat.zero_le _)) hx
      · rw [e3, List.length_append, List.length_singleton] at hl
        rcases h.lv y (h.kn us y hy (by omega)) with hL | ⟨vs, hv, hy2⟩
        · exact (hF x).mpr ⟨y, hL, e, he, e2⟩
        · exact absurd (h.kn (vs ++ [e.1]) x (e2 ▸ hy2.snoc he) (by rw [List.length_append, List.length_singleton]; omega)) hx
  · rcases List.mem_append.mp hx with hx | hx
    · rcases h.lv x hx with hL | ⟨ls, hl, hp⟩
      · obtain ⟨ls, hl, hp⟩ := h.pt x hL
        exact .inr ⟨ls, by omega, hp⟩
      · exact .inr ⟨ls, by omega, hp⟩
    · exact .inl hx
theorem LvI.short (h : LvI sc s n [] Kn) : ∀ ls x, Pt sc s ls x → ∃ us, us.length < n ∧ Pt sc s us x := by
  intro ls x hp
  induction hp with
  | nil =>
    rcases h.lv s (h.kn [] s .nil (Nat.zero_le _)) with hL | hL
    · cases hL
    · exact hL
  | @snoc ls x e _ he ih =>
    obtain ⟨us, hu, hp⟩ := ih
    rcases h.lv e.2 (h.kn _ _ (hp.snoc he) (by rw [List.length_append, List.length_singleton]; omega)) with hL | hL
    · cases hL
    · exact hL
theorem LvI.few (h : LvI sc s n L Kn) (h0 : s ∈ N) (hN : ∀ x ∈ N, ∀ e ∈ sc x, e.2 ∈ N) : Kn.length ≤ N.length := nd_sub h.nd fun x hx => by
  obtain ⟨ls, hp⟩ := h.rc x hx
  exact pt_in h0 hN hp
end
/-! ### a machine as a law makes it -/
/-- the same machine, its parts in another order -/
structure McE (m n : Mc) : Prop where
  at_ : m.at_ = n.at_
  fi : ∀ a, a ∈ m.fi ↔ a ∈ n.fi
  la : ∀ a, a ∈ m.la ↔ a ∈ n.la
  pr : ∀ p, p ∈ m.pr ↔ p ∈ n.pr
  op : m.op = n.op
section
variable {m n : Mc}
theorem McE.tk (e : McE m n) (a : Nat) (x : Str) : tkM m a x = tkM n a x := by
  unfold tkM
  rw [e.at_]
theorem McE.beh (e : McE m n) (ps : List Nat) (a : Nat) : behM m ps a = behM n ps a := by
  unfold behM
  simp only [e.pr]
theorem McE.beg (e : McE m n) (ps : List Nat) (x : Str) : begM m ps x = begM n ps x := by
  unfold begM
  simp only [e.tk, e.beh, e.fi, e.at_]
theorem McE.done (e : McE m n) (ps : List Nat) : doneM m ps = doneM n ps := by
  unfold doneM
  simp only [e.la]
theorem McE.st (e : McE m n) (ls : List Str) : stM m ls = stM n ls := by
  unfold stM
  rw [show begM m = begM n from funext fun ps => funext fun x => e.beg ps x]
theorem McE.refl : McE m m := ⟨rfl, fun _ => Iff.rfl, fun _ => Iff.rfl, fun _ => Iff.rfl, rfl⟩
end
/-! ### numbers in tuples -/
theorem pl_nmD (ns : List Nat) (n : Nat) : (nmD ns).all (pl n) = true := List.all_eq_true.mpr fun d hd => by
  obtain ⟨s, _, rfl⟩ := List.mem_map.mp hd
  cases n <;> rfl
end DL

/-! FO: shortest words that part two machines, searched by levels, in plain Lean (own work). -/
namespace DL
open PySem L2 PySem.W

/-! ### sub-rows again -/
theorem subs_iff {α : Type} {xs ys : List α} : ys ∈ subs xs ↔ ys.Sublist xs := by
  induction xs generalizing ys with
  | nil => rw [subs, List.mem_singleton, List.sublist_nil]
  | cons x xs ih =>
    rw [subs, List.mem_append, List.mem_map]
    constructor
    · rintro (h | ⟨zs, h, rfl⟩)
      · exact (ih.mp h).cons _
      · exact (ih.mp h).cons_cons _
    · intro h
      cases h with
      | cons _ h => exact .inl (ih.mpr h)
      | cons_cons _ h => exact .inr ⟨_, ih.mpr h, rfl⟩
theorem mc_fi_sub : ∀ (t : Tr) (s : Nat), (mcT t s).fi.Sublist (List.range' s (mcT t s).at_.length)
  | .at k ns, s => List.Sublist.refl _
  | .rep a, s => mc_fi_sub a s
  | .opt a, s => mc_fi_sub a s
  | .either a b, s => by
    show ((mcT a s).fi ++ (mcT b (s + (mcT a s).at_.length)).fi).Sublist (List.range' s ((mcT a s).at_ ++ (mcT b (s + (mcT a s).at_.length)).at_).length)
    rw [List.length_append, ← List.range'_append_1]
    exact (mc_fi_sub a s).append (mc_fi_sub b _)
  | .join a b, s => by
    show (if (mcT a s).op then (mcT a s).fi ++ (mcT b (s + (mcT a s).at_.length)).fi else (mcT a s).fi).Sublist (List.range' s ((mcT a s).at_ ++ (mcT b (s + (mcT a s).at_.length)).at_).length)
    rw [List.length_append, ← List.range'_append_1]
    split
    · exact (mc_fi_sub a s).append (mc_fi_sub b _)
    · exact (mc_fi_sub a s).trans (List.sublist_append_left _ _)
theorem start_sub (t : Tr) (x : Str) : startM (mcT t 0) x ∈ subs (List.range (mcT t 0).at_.length) := by
  rw [subs_iff, List.range_eq_range']
  exact (List.filter_sublist).trans (mc_fi_sub t 0)
theorem after_sub (m : Mc) (ps : List Nat) (x : Str) : afterM m ps x ∈ subs (List.range m.at_.length) := flt_subs _ _

/-! ### words and what two machines make of them -/
abbrev P2 := List Nat × List Nat
def st2 (m n : Mc) (w : List Str) : P2 := (runM m w, runM n w)
def nx2 (m n : Mc) (p : P2) (x : Str) : P2 := (afterM m p.1 x, afterM n p.2 x)
theorem st2_snoc {m n : Mc} {w : List Str} {x : Str} (h : w ≠ []) : st2 m n (w ++ [x]) = nx2 m n (st2 m n w) x := by
  unfold st2 nx2
  rw [run_snoc h, run_snoc h]
/-- all pairs there can be -/
def p2All (m n : Mc) : List P2 := (subs (List.range m.at_.length)).flatMap fun a => (subs (List.range n.at_.length)).map fun b => (a, b)
theorem p2All_len (m n : Mc) : (p2All m n).length = 2 ^ m.at_.length * 2 ^ n.at_.length := by
  have key : ∀ (xs : List (List Nat)), (xs.flatMap fun a => (subs (List.range n.at_.length)).map fun b => (a, b)).length = xs.length * 2 ^ n.at_.length := fun xs => by
    induction xs with
    | nil => simp
    | cons x xs ih => rw [List.flatMap_cons, List.length_append, ih, List.length_map, subs_len, List.length_range, List.length_cons, Nat.add_mul, Nat.one_mul, Nat.add_comm]
  unfold p2All
  rw [key, subs_len, List.length_range]
theorem p2All_mem {m n : Mc} {p : P2} (h1 : p.1 ∈ subs (List.range m.at_.length)) (h2 : p.2 ∈ subs (List.range n.at_.length)) : p ∈ p2All m n :=
  List.mem_flatMap.mpr ⟨p.1, h1, List.mem_map.mpr ⟨p.2, h2, rfl⟩⟩
theorem st2_all (t u : Tr) {w : List Str} (h : w ≠ []) : st2 (mcT t 0) (mcT u 0) w ∈ p2All (mcT t 0) (mcT u 0) := by
  have key : ∀ (t : Tr) (w : List Str), w ≠ [] → runM (mcT t 0) w ∈ subs (List.range (mcT t 0).at_.length) := fun t w h => by
    obtain ⟨ys, y, rfl⟩ : ∃ ys y, w = ys ++ [y] := ⟨w.dropLast, w.getLast h, (List.dropLast_concat_getLast h).symm⟩
    by_cases e : ys = []
    · subst e
      exact start_sub t y
    · rw [run_snoc e]
      exact after_sub _ _ _
  exact p2All_mem (key t w h) (key u w h)

/-! ### the search -/
/-- words told so far; the first `at_` are done; ks: the pairs that were met -/
structure WIn (m n : Mc) (N : List Str) (at_ : Nat) (ks : List P2) (qs : List (List Str)) : Prop where
  ini : ∀ x ∈ N, [x] ∈ qs
  ne : ∀ q ∈ qs, q ≠ []
  mono : ∀ (i j : Nat) (p q : List Str), i ≤ j → qs[i]? = some p → qs[j]? = some q → p.length ≤ q.length
  lev : ∀ c, qs[at_]? = some c → ∀ q ∈ qs, q.length ≤ c.length + 1
  old : ∀ k ∈ ks, ∃ (j : Nat) (q : List Str), j < at_ ∧ qs[j]? = some q ∧ st2 m n q = k ∧ ∀ x ∈ N, q ++ [x] ∈ qs
  kn : ∀ (i : Nat) (c : List Str), i < at_ → qs[i]? = some c → st2 m n c ∈ ks
  cl : ∀ (i : Nat) (c : List Str), i < at_ → qs[i]? = some c → ∃ (j : Nat) (q : List Str), j ≤ i ∧ qs[j]? = some q ∧ st2 m n q = st2 m n c ∧ ∀ x ∈ N, q ++ [x] ∈ qs
  nd : ks.Nodup
  len : qs.length = N.length * (ks.length + 1)
  ll : ∀ q ∈ qs, q.length ≤ ks.length + 1
  lt : ∀ q ∈ qs, ∀ x ∈ q, x ∈ N
section
variable {m n : Mc} {N : List Str} {at_ : Nat} {ks : List P2} {qs : List (List Str)}
theorem WIn.start (m n : Mc) (N : List Str) : WIn m n N 0 [] (N.map fun x => [x]) where
  ini := fun x hx => List.mem_map.mpr ⟨x, hx, rfl⟩
  ne := fun q hq => by
    obtain ⟨x, _, rfl⟩ := List.mem_map.mp hq
    exact List.cons_ne_nil _ _
  mono := fun i j p q _ hp hq => by
    obtain ⟨x, _, rfl⟩ := List.mem_map.mp (List.mem_of_getElem? hp)
    obtain ⟨y, _, rfl⟩ := List.mem_map.mp (List.mem_of_getElem? hq)
    exact Nat.le_refl _
  lev := fun c _ q hq => by
    obtain ⟨x, _, rfl⟩ := List.mem_map.mp hq
    exact Nat.succ_le_succ (Nat.zero_le _)
  old := fun k hk => nomatch hk
  kn := fun i c h => absurd h (Nat.not_lt_zero _)
  cl := fun i c h => absurd h (Nat.not_lt_zero _)
  nd := List.nodup_nil
  len := by rw [List.length_map]; exact (Nat.mul_one _).symm
  ll := fun q hq => by
    obtain ⟨x, _, rfl⟩ := List.mem_map.mp hq
    exact Nat.le_refl _
  lt := fun q hq y hy => by
    obtain ⟨x, hx, rfl⟩ := List.mem_map.mp hq
    rw [List.mem_singleton.mp hy]
    exact hx
/-- a pair that was met -/
theorem WIn.again (b : WIn m n N at_ ks qs) {c : List Str} (hc : qs[at_]? = some c) (h : st2 m n c ∈ ks) : WIn m n N (at_ + 1) ks qs := { b with
  lev := fun d hd q hq => by
    have h1 := b.lev c hc q hq
    have h2 := b.mono at_ (at_ + 1) c d (Nat.le_succ _) hc hd
    omega
  old := fun k hk => by
    obtain ⟨j, q, h1, r⟩ := b.old k hk
    exact ⟨j, q, Nat.lt_succ_of_lt h1, r⟩
  kn := fun i d hi hd => by
    rcases Nat.lt_or_ge i at_ with g | g
    · exact b.kn i d g hd
    · have : i = at_ := by omega
      subst this
      rw [hc] at hd
      cases hd
      exact h
  cl := fun i d hi hd => by
    rcases Nat.lt_or_ge i at_ with g | g
    · exact b.cl i d g hd
    · have : i = at_ := by omega
      subst this
      rw [hc] at hd
      cases hd
      obtain ⟨j, q, h1, h2, h3, h4⟩ := b.old _ h
      exact ⟨j, q, Nat.le_of_lt h1, h2, h3, h4⟩ }
/-- a new pair -/
theorem WIn.new (b : WIn m n N at_ ks qs) {c : List Str} (hc : qs[at_]? = some c) (h : st2 m n c ∉ ks) : WIn m n N (at_ + 1) (ks ++ [st2 m n c]) (qs ++ N.map fun x => c ++ [x]) := by
  have hlt : at_ < qs.length := (List.getElem?_eq_some_iff.mp hc).1
  have up : ∀ {i : Nat} {x : List Str}, qs[i]? = some x → (qs ++ N.map fun x => c ++ [x])[i]? = some x := fun {i x} hx => by rwa [List.getElem?_append_left (List.getElem?_eq_some_iff.mp hx).1]
  have key : ∀ {k : Nat} {x : List Str}, (qs ++ N.map fun x => c ++ [x])[k]? = some x → (k < qs.length ∧ qs[k]? = some x) ∨ (qs.length ≤ k ∧ x.length = c.length + 1) := fun {k x} hx => by
    by_cases hk : k < qs.length
    · rw [List.getElem?_append_left hk] at hx
      exact .inl ⟨hk, hx⟩
    · rw [List.getElem?_append_right (Nat.le_of_not_lt hk)] at hx
      obtain ⟨y, _, rfl⟩ := List.mem_map.mp (List.mem_of_getElem? hx)
      exact .inr ⟨Nat.le_of_not_lt hk, by rw [List.length_append]; rfl⟩
  have low : ∀ {i : Nat} {x : List Str}, i < at_ + 1 → (qs ++ N.map fun x => c ++ [x])[i]? = some x → qs[i]? = some x := fun {i x} hi hx => by
    rcases key hx with ⟨_, h⟩ | ⟨h, _⟩
    · exact h
    · omega
  have le1 : ∀ {q : List Str}, q ∈ qs ++ N.map (fun x => c ++ [x]) → q.length ≤ c.length + 1 := fun {q} hq => by
    rcases List.mem_append.mp hq with hq | hq
    · exact b.lev c hc q hq
    · obtain ⟨y, _, rfl⟩ := List.mem_map.mp hq
      rw [List.length_append]
      exact Nat.le_refl _
  have own : ∀ x ∈ N, c ++ [x] ∈ qs ++ N.map (fun x => c ++ [x]) := fun x hx => List.mem_append_right _ (List.mem_map.mpr ⟨x, hx, rfl⟩)
  refine ⟨fun x hx => List.mem_append_left _ (b.ini x hx), fun q hq => ?_, fun i j p q hij hp hq => ?_, fun d hd q hq => ?_, fun k hk => ?_, fun i d hi hd => ?_, fun i d hi hd => ?_, ?_, ?_, fun q hq => ?_, fun q hq z hz => ?_⟩
  · rcases List.mem_append.mp hq with hq | hq
    · exact b.ne q hq
    · obtain ⟨y, _, rfl⟩ := List.mem_map.mp hq
      simp
  · rcases key hp with ⟨h1, hp⟩ | ⟨h1, e1⟩ <;> rcases key hq with ⟨h2, hq⟩ | ⟨h2, e2⟩
    · exact b.mono i j p q hij hp hq
    · rw [e2]
      exact b.lev c hc p (List.mem_of_getElem? hp)
    · omega
    · omega
  · have h1 := le1 hq
    have h2 : c.length ≤ d.length := by
      rcases key hd with ⟨_, hd⟩ | ⟨_, e⟩
      · exact b.mono at_ (at_ + 1) c d (Nat.le_succ _) hc hd
      · omega
    omega
  · rcases List.mem_append.mp hk with hk | hk
    · obtain ⟨j, q, h1, h2, h3, h4⟩ := b.old k hk
      exact ⟨j, q, Nat.lt_succ_of_lt h1, up h2, h3, fun x hx => List.mem_append_left _ (h4 x hx)⟩
    · rw [List.mem_singleton.mp hk]
      exact ⟨at_, c, Nat.lt_succ_self _, up hc, rfl, own⟩
  · have hd' := low hi hd
    rcases Nat.lt_or_ge i at_ with g | g
    · exact List.mem_append_left _ (b.kn i d g hd')
    · have : i = at_ := by omega
      subst this
      rw [hc] at hd'
      cases hd'
      exact List.mem_append_right _ (List.mem_singleton.mpr rfl)
  · have hd' := low hi hd
    rcases Nat.lt_or_ge i at_ with g | g
    · obtain ⟨j, q, h1, h2, h3, h4⟩ := b.cl i d g hd'
      exact ⟨j, q, h1, up h2, h3, fun x hx => List.mem_append_left _ (h4 x hx)⟩
    · have : i = at_ := by omega
      subst this
      rw [hc] at hd'
      cases hd'
      exact ⟨i, c, Nat.le_refl _, up hc, rfl, own⟩
  · rw [List.nodup_append]
    exact ⟨b.nd, by simp, fun x hx y hy => by
      rintro rfl
      rw [List.mem_singleton.mp hy] at hx
      exact h hx⟩
  · rw [List.length_append, List.length_map, b.len, List.length_append, List.length_singleton, Nat.mul_succ N.length (ks.length + 1)]
  · rw [List.length_append, List.length_singleton]
    rcases List.mem_append.mp hq with hq | hq
    · exact Nat.le_succ_of_le (b.ll q hq)
    · obtain ⟨y, _, rfl⟩ := List.mem_map.mp hq
      rw [List.length_append]
      exact Nat.succ_le_succ (b.ll c (List.mem_of_getElem? hc))
  · rcases List.mem_append.mp hq with hq | hq
    · exact b.lt q hq z hz
    · obtain ⟨y, hy, rfl⟩ := List.mem_map.mp hq
      rcases List.mem_append.mp hz with hz | hz
      · exact b.lt c (List.mem_of_getElem? hc) z hz
      · rw [List.mem_singleton.mp hz]
        exact hy
/-- every word is met, or one no longer is still to come -/
theorem WIn.met (b : WIn m n N at_ ks qs) {w : List Str} (hne : w ≠ []) (hN : ∀ x ∈ w, x ∈ N) : ∃ (i : Nat) (q : List Str), qs[i]? = some q ∧ q.length ≤ w.length ∧ ((i < at_ ∧ st2 m n q = st2 m n w) ∨ at_ ≤ i) := by
  induction w using list_snoc_ind with
  | nil => exact absurd rfl hne
  | snoc w x ih =>
    have hx := hN x (List.mem_append_right _ (List.mem_singleton.mpr rfl))
    have fin : ∀ q, q ∈ qs → q.length ≤ (w ++ [x]).length → st2 m n q = st2 m n (w ++ [x]) → ∃ (i : Nat) (q : List Str), qs[i]? = some q ∧ q.length ≤ (w ++ [x]).length ∧ ((i < at_ ∧ st2 m n q = st2 m n (w ++ [x])) ∨ at_ ≤ i) := fun q hq hl he => by
      obtain ⟨i, hi⟩ := List.getElem?_of_mem hq
      rcases Nat.lt_or_ge i at_ with g | g
      · exact ⟨i, q, hi, hl, .inl ⟨g, he⟩⟩
      · exact ⟨i, q, hi, hl, .inr g⟩
    by_cases e : w = []
    · subst e
      exact fin [x] (b.ini x hx) (Nat.le_refl _) rfl
    · obtain ⟨i, q, hq, hl, h | h⟩ := ih e fun y hy => hN y (List.mem_append_left _ hy)
      · obtain ⟨j, p, h1, h2, h3, h4⟩ := b.cl i q h.1 hq
        have hp := List.mem_of_getElem? h2
        have hpl := b.mono j i p q h1 h2 hq
        refine fin (p ++ [x]) (h4 x hx) ?_ ?_
        · rw [List.length_append, List.length_append, List.length_singleton]
          omega
        · rw [st2_snoc (b.ne p hp), st2_snoc e, h3, h.2]
      · exact ⟨i, q, hq, by rw [List.length_append]; omega, .inr h⟩
theorem WIn.none (b : WIn m n N at_ ks qs) {G : P2 → Prop} (no : ∀ k ∈ ks, ¬ G k) (h : qs.length ≤ at_) {w : List Str} (hne : w ≠ []) (hN : ∀ x ∈ w, x ∈ N) : ¬ G (st2 m n w) := fun hg => by
  obtain ⟨i, q, hq, hl, g | g⟩ := b.met hne hN
  · exact no _ (b.kn i q g.1 hq) (g.2 ▸ hg)
  · have := (List.getElem?_eq_some_iff.mp hq).1
    omega
end

section
variable {t u : Tr} {one : Bool} {N : List Str} {f : Str} {at_ : Nat} {ks : List P2} {qs : List (List Str)}
end

end DL

/-! FP: what machines of like trees make of words; how many pairs there are; how many ends (own work). -/
namespace DL
open PySem L2 PySem.W

section
variable {m n : Mc}
end
theorem run_rep2 (a : Tr) (w : List Str) : runM (mcT (.rep (.rep a)) 0) w = runM (mcT (.rep a) 0) w := by
  have af : ∀ ps x, afterM (mcT (.rep (.rep a)) 0) ps x = afterM (mcT (.rep a) 0) ps x := fun ps x => by
    refine List.filter_congr fun b _ => ?_
    have : behM (mcT (.rep (.rep a)) 0) ps b = behM (mcT (.rep a) 0) ps b := by
      unfold behM
      rw [Bool.eq_iff_iff, List.any_eq_true, List.any_eq_true]
      constructor
      · rintro ⟨p, hp, h⟩
        refine ⟨p, hp, decide_eq_true ?_⟩
        rcases List.mem_append.mp (of_decide_eq_true h) with h | h
        · exact h
        · exact List.mem_append_right _ h
      · rintro ⟨p, hp, h⟩
        exact ⟨p, hp, decide_eq_true (List.mem_append_left _ (of_decide_eq_true h))⟩
    rw [this]
    rfl
  have fold : ∀ (r : List Str) (ps : List Nat), r.foldl (afterM (mcT (.rep (.rep a)) 0)) ps = r.foldl (afterM (mcT (.rep a) 0)) ps := fun r => by
    induction r with
    | nil => exact fun _ => rfl
    | cons x r ih => exact fun ps => by rw [List.foldl_cons, List.foldl_cons, af, ih]
  cases w with
  | nil => rfl
  | cons x r => exact fold r _

/-! ### how many pairs there are -/
/-- all that two machines make of words stands in a row of c pairs -/
def PrOk (t u : Tr) (c : Nat) : Prop := ∃ PA : List P2, PA.length ≤ c ∧ ∀ w, w ≠ [] → st2 (mcT t 0) (mcT u 0) w ∈ PA
theorem PrOk.up {t u : Tr} {c d : Nat} (h : PrOk t u c) (hd : c ≤ d) : PrOk t u d := by
  obtain ⟨PA, h1, h2⟩ := h
  exact ⟨PA, by omega, h2⟩
theorem PrOk.all (t u : Tr) : PrOk t u (2 ^ t.ats * 2 ^ u.ats) := ⟨p2All (mcT t 0) (mcT u 0), by rw [p2All_len, mc_at_len, mc_at_len]; exact Nat.le_refl _, fun w h => st2_all t u h⟩
theorem PrOk.swap {t u : Tr} {c : Nat} (h : PrOk t u c) : PrOk u t c := by
  obtain ⟨PA, h1, h2⟩ := h
  exact ⟨PA.map fun p => (p.2, p.1), by rw [List.length_map]; exact h1, fun w hw => List.mem_map.mpr ⟨_, h2 w hw, rfl⟩⟩
/-- what the second makes is told by what others make -/
theorem PrOk.by {t u v : Tr} {c : Nat} (h : PrOk t v c) (f : P2 → List Nat) (hf : ∀ w, runM (mcT u 0) w = f (st2 (mcT t 0) (mcT v 0) w)) : PrOk t u c := by
  obtain ⟨PA, h1, h2⟩ := h
  exact ⟨PA.map fun p => (p.1, f p), by rw [List.length_map]; exact h1, fun w hw => List.mem_map.mpr ⟨_, h2 w hw, by unfold st2; rw [hf]; rfl⟩⟩
theorem PrOk.same (t : Tr) : PrOk t t (2 ^ t.ats) := by
  refine ⟨(subs (List.range (mcT t 0).at_.length)).map fun a => (a, a), by rw [List.length_map, subs_len, List.length_range, mc_at_len]; exact Nat.le_refl _, fun w hw => List.mem_map.mpr ⟨runM (mcT t 0) w, ?_, rfl⟩⟩
  have := st2_all t t hw
  obtain ⟨a, ha, h⟩ := List.mem_flatMap.mp this
  obtain ⟨b, hb, e⟩ := List.mem_map.mp h
  rw [← show a = runM (mcT t 0) w from congrArg Prod.fst e]
  exact ha
theorem PrOk.opt (t : Tr) : PrOk t (.opt t) (2 ^ t.ats) := (PrOk.same t).by (fun p => p.2) fun w => rfl
theorem PrOk.rep (t : Tr) : PrOk (.rep t) (.rep (.rep t)) (2 ^ t.ats) := (PrOk.same (.rep t)).by (fun p => p.2) fun w => run_rep2 t w
/-! ### how many ends there are -/
def EB (n : Nat) : Tr → Nat
  | .at _ _ => 1
  | .either a b => EB n a + EB n b
  | .opt a => EB n a + 1
  | .join a b => (n + 1) * EB n b
  | .rep a => n + 1
/-- the rows stay short -/
def EbOk (n : Nat) : Tr → Prop
  | .at _ _ => True
  | .either a b => EbOk n a ∧ EbOk n b ∧ EB n a + EB n b ≤ 90000
  | .opt a => EbOk n a ∧ EB n a + 1 ≤ 90000
  | .join a b => EbOk n a ∧ EbOk n b ∧ EB n a ≤ 50000 ∧ (n + 1) * EB n b ≤ 90000
  | .rep a => EbOk n a ∧ EB n a ≤ 90000
theorem EB_dep {n : Nat} (hn : 1 ≤ n) : ∀ {t : Tr}, (t.dep = 0 → EB n t ≤ 1) ∧ (t.dep ≤ 1 → EB n t ≤ n + 1) ∧ (t.dep ≤ 2 → EB n t ≤ (n + 1) * (n + 1))
  | .at kd ns => ⟨fun _ => Nat.le_refl _, fun _ => by show 1 ≤ _; omega, fun _ => by show 1 ≤ _; exact Nat.mul_pos (by omega) (by omega)⟩
  | .rep a => by
    refine ⟨fun h => (by cases h), fun h => Nat.le_refl _, fun h => ?_⟩
    show n + 1 ≤ (n + 1) * (n + 1)
    exact Nat.le_mul_of_pos_right _ (by omega)
  | .opt a => by
    obtain ⟨h0, h1, h2⟩ := EB_dep hn (t := a)
    refine ⟨fun h => (by cases h), fun h => ?_, fun h => ?_⟩
    · have := h0 (by have : a.dep + 1 ≤ 1 := h; omega)
      show EB n a + 1 ≤ _
      omega
    · have := h1 (by have : a.dep + 1 ≤ 2 := h; omega)
      show EB n a + 1 ≤ (n + 1) * (n + 1)
      have e : (n + 1) * (n + 1) = n * (n + 1) + (n + 1) := Nat.succ_mul n (n + 1)
      have : 1 ≤ n * (n + 1) := Nat.mul_pos (by omega) (by omega)
      omega
  | .either a b => by
    obtain ⟨h0, h1, h2⟩ := EB_dep hn (t := a)
    obtain ⟨g0, g1, g2⟩ := EB_dep hn (t := b)
    refine ⟨fun h => (by cases h), fun h => ?_, fun h => ?_⟩
    · have h : max a.dep b.dep + 1 ≤ 1 := h
      have := h0 (by omega)
      have := g0 (by omega)
      show EB n a + EB n b ≤ _
      omega
    · have h : max a.dep b.dep + 1 ≤ 2 := h
      have := h1 (by omega)
      have := g1 (by omega)
      show EB n a + EB n b ≤ (n + 1) * (n + 1)
      have e : (n + 1) * (n + 1) = n * (n + 1) + (n + 1) := Nat.succ_mul n (n + 1)
      have : 1 * (n + 1) ≤ n * (n + 1) := Nat.mul_le_mul_right _ hn
      omega
  | .join a b => by
    obtain ⟨h0, h1, h2⟩ := EB_dep hn (t := a)
    obtain ⟨g0, g1, g2⟩ := EB_dep hn (t := b)
    refine ⟨fun h => (by cases h), fun h => ?_, fun h => ?_⟩
    · have h : max a.dep b.dep + 1 ≤ 1 := h
      have := g0 (by omega)
      show (n + 1) * EB n b ≤ n + 1
      calc (n + 1) * EB n b ≤ (n + 1) * 1 := Nat.mul_le_mul_left _ this
        _ = n + 1 := Nat.mul_one _
    · have h : max a.dep b.dep + 1 ≤ 2 := h
      have := g1 (by omega)
      exact Nat.mul_le_mul_left _ this
theorem sq_le {n : Nat} (h : n ≤ 256) : (n + 1) * (n + 1) ≤ 66049 := Nat.le_trans (Nat.mul_le_mul (show n + 1 ≤ 257 by omega) (show n + 1 ≤ 257 by omega)) (by decide)
/-- trees of at most two nested operators -/
theorem EbOk.dep {n : Nat} (h1 : 1 ≤ n) (hn : n ≤ 256) : ∀ {t : Tr}, t.dep ≤ 2 → EbOk n t
  | .at kd ns, _ => trivial
  | .rep a, h => by
    have h : a.dep + 1 ≤ 2 := h
    have := (EB_dep h1 (t := a)).2.1 (by omega)
    exact ⟨EbOk.dep h1 hn (by omega), by omega⟩
  | .opt a, h => by
    have h : a.dep + 1 ≤ 2 := h
    have := (EB_dep h1 (t := a)).2.1 (by omega)
    exact ⟨EbOk.dep h1 hn (by omega), by omega⟩
  | .either a b, h => by
    have h : max a.dep b.dep + 1 ≤ 2 := h
    have := (EB_dep h1 (t := a)).2.1 (by omega)
    have := (EB_dep h1 (t := b)).2.1 (by omega)
    exact ⟨EbOk.dep h1 hn (by omega), EbOk.dep h1 hn (by omega), by omega⟩
  | .join a b, h => by
    have h : max a.dep b.dep + 1 ≤ 2 := h
    have h3 := (EB_dep h1 (t := a)).2.1 (by omega)
    have h4 := (EB_dep h1 (t := b)).2.1 (by omega)
    have := sq_le hn
    exact ⟨EbOk.dep h1 hn (by omega), EbOk.dep h1 hn (by omega), by omega, Nat.le_trans (Nat.mul_le_mul_left _ h4) (by omega)⟩
theorem EB_mono {n m : Nat} (h : n ≤ m) : ∀ t : Tr, EB n t ≤ EB m t
  | .at _ _ => Nat.le_refl _
  | .either a b => Nat.add_le_add (EB_mono h a) (EB_mono h b)
  | .opt a => Nat.succ_le_succ (EB_mono h a)
  | .join a b => Nat.mul_le_mul (Nat.succ_le_succ h) (EB_mono h b)
  | .rep a => Nat.succ_le_succ h
theorem EbOk.mono {n m : Nat} (h : n ≤ m) : ∀ {t : Tr}, EbOk m t → EbOk n t
  | .at _ _, _ => trivial
  | .either a b, ⟨h1, h2, h3⟩ => ⟨h1.mono h, h2.mono h, Nat.le_trans (Nat.add_le_add (EB_mono h a) (EB_mono h b)) h3⟩
  | .opt a, ⟨h1, h3⟩ => ⟨h1.mono h, Nat.le_trans (Nat.succ_le_succ (EB_mono h a)) h3⟩
  | .join a b, ⟨h1, h2, h3, h4⟩ => ⟨h1.mono h, h2.mono h, Nat.le_trans (EB_mono h a) h3, Nat.le_trans (Nat.mul_le_mul (Nat.succ_le_succ h) (EB_mono h b)) h4⟩
  | .rep a, ⟨h1, h3⟩ => ⟨h1.mono h, Nat.le_trans (EB_mono h a) h3⟩

/-- a second tree beside a first one, as the law draws it -/
structure SecT (t u : Tr) : Prop where
  nt : niceT t
  nu : niceT u
  dt : t.dep ≤ 3
  du : u.dep ≤ 3
  at1 : t.ats ≤ 8
  at2 : u.ats ≤ 8
  pr : PrOk t u 256
  e1 : EbOk 256 t
  e2 : EbOk 256 u
theorem SecT.swap {t u : Tr} (h : SecT t u) : SecT u t := ⟨h.nu, h.nt, h.du, h.dt, h.at2, h.at1, h.pr.swap, h.e2, h.e1⟩
section
variable {t : Tr} (nt : niceT t) (dt : t.dep ≤ 2)
include nt dt
end
theorem EvNR.lstR {K : PySem.W.Frag} {ro : Ro} {ka : Cells} {te : TE} {R : Nd → Cells → Prop} (h : EvNR K te ro ka R) (hR : ∀ n k, R n k → ∃ ds, n = .lst ds) : EvR K te ro ka (fun w k => ∃ ds, R (.lst ds) k ∧ w = .val (.lst ds)) := fun B F0 ta sg H Q e q => h B F0 ta sg H Q e fun n k a H1 r e1 => by
  obtain ⟨ds, rfl⟩ := hR n k r
  exact q _ _ _ _ ⟨ds, r, rfl⟩ e1.freeze_l
end DL

/-! FQ: {y: [] for y in ..} and {(y, ()): [] for y in ..} with nested keys, over lists, tuples and dicts; the library's DictComp_goesN with the hand layer's state at each turn (own work). -/
namespace DL
open PySem L2 PySem.W PyProof.Rows

/-- where the things come from -/
inductive DcOver (K : PySem.W.Frag) (H : Hp) (w : World) (l : Addr) (xs : List V) : Prop where
  | lst (h : SqL K H l xs)
  | tup (h : SqT K H l xs)
  | nest (rs : List (NestedKey × Addr × V)) (h : NAt K H w l rs) (e : xs = rs.map fun r => .ref r.2.1)
section
variable {X : Cx}
end
end DL

/-! FR: rules by data: {y: [] ..} with nested keys, list.pop, frozen dicts of lists with nested keys, dicts keyed by numbers (own work). -/
namespace DL
open PySem L2 PySem.W PyProof.Rows

section
variable {wd : World} {K : PySem.W.Frag} {B F F0 : Hp} {ro : Ro} {ka k1 k2 : Cells} {ta : List (V × W)} {sg : L2.St} {H : Hp} {te : TE} {w0 : W}
end

section
variable {wd : World} {K : PySem.W.Frag} {B F F0 : Hp} {ro : Ro} {ka k1 k2 k3 : Cells} {ta : List (V × W)} {sg : L2.St} {H : Hp} {te td ty tk tv tf : TE} {tt : TT} {tr : TA} {w x y : W} {a C : Addr} {b : Bool} {De : Ends} {u : TS} {E : XK} {P : W → Cells → Prop} {ds : List (Key × D)} {c : Key} {d : D} {n : Nd}
/-! ### list.pop -/
theorem ev_pop {j : Nat} {es : List D} (ho : EvD K te ro ka (.val (.adr a)) k1) (hj : k1[j]? = some (a, .lst (es ++ [d]))) : EvD K (tBM0 K "list" rPop te) ro ka (.val d) (k1.set j (a, .lst es)) := fun B F0 ta sg H Q e q => by
  refine ho B F0 ta sg H _ e fun v H1 e1 => ?_
  have hv := e1.tm_adr (v := v) (a := a) List.mem_cons_self
  subst hv
  obtain ⟨F, g, ef⟩ := e1
  obtain ⟨xs, hx, rx⟩ := ef.rd_lst hj
  have hl := rpl_len rx
  obtain ⟨ys, z, rfl⟩ : ∃ ys z, xs = ys ++ [z] := by
    rcases list_nil_or_snocD xs with rfl | h
    · simp at hl
    · exact h
  obtain ⟨r1, r2⟩ := rpl_snoc rx
  refine ⟨.inl ⟨rfl, _, .inl (.inl hx)⟩, a, _, z, rfl, rfl, hx, by simp, ?_⟩
  rw [List.dropLast_concat]
  exact q z _ ⟨F, g, ((ef.write (o := .lst ys) (n' := .lst es) hj ⟨ys, upd_same, r1⟩).held fun p hp => List.mem_cons_of_mem _ hp).push r2⟩
where
  list_nil_or_snocD {β : Type} (xs : List β) : xs = [] ∨ ∃ ys y, xs = ys ++ [y] := by
    by_cases h : xs = []
    · exact .inl h
    · exact .inr ⟨xs.dropLast, xs.getLast h, (List.dropLast_concat_getLast h).symm⟩
  rpl_snoc {F : Hp} {es : List D} {d : D} {ys : List V} {z : V} (h : RpL K F (es ++ [d]) (ys ++ [z])) : RpL K F es ys ∧ Rp K F d z := by
    induction es generalizing ys with
    | nil =>
      cases ys with
      | nil =>
        obtain ⟨x, r, e, h1, h2⟩ := h
        cases e
        exact ⟨rfl, h1⟩
      | cons y ys =>
        obtain ⟨x, r, e, h1, h2⟩ := h
        cases e
        have := rpl_len h2
        simp at this
    | cons e es ih =>
      cases ys with
      | nil =>
        obtain ⟨x, r, e, h1, h2⟩ := h
        cases e
        have := rpl_len (show RpL K F (es ++ [d]) [] from h2)
        simp at this
      | cons y ys =>
        obtain ⟨x, r, e, h1, h2⟩ := h
        cases e
        obtain ⟨i1, i2⟩ := ih h2
        exact ⟨⟨_, _, rfl, h1, i1⟩, i2⟩

/-! ### an own object called -/
theorem Fn.fr {Pg : Program} {mg : Str → Option Value} {base : Heap} {k : Nat} {f : Addr} {ps : List Str} {Cc : Ct} (F : Fn Pg wd K mg base k f ps Cc) : FnR Pg wd K mg base (L2.CX Pg wd) k f (spC K Cc) := by
  obtain ⟨fd, F, hb⟩ := F
  exact (F.raw hb .nil).imp fun vs H Q E h => by rw [List.append_nil]; exact h
/-! ### frozen: a dict of nested keys with what stands behind -/
def FzN (K : PySem.W.Frag) (kt : Cells) : List (NestedKey × D) → List (NestedKey × D) → Prop
  | [], es => es = []
  | (k, d) :: ds, es => ∃ e r, es = (k, e) :: r ∧ FzR K kt d e ∧ FzN K kt ds r
theorem FzN.rp {kt : Cells} (nz : Nz F) (t : Thw K F H kt) : ∀ {ds es : List (NestedKey × D)} {xs : List (NestedKey × Addr × V)}, FzN K kt ds es → RpN K F ds xs → RpN K (thF F H kt) es xs
  | [], es, xs, z, h => by
    obtain rfl : es = [] := z
    exact h
  | (k, d) :: ds, es, xs, ⟨e, r, e1, z1, z2⟩, ⟨bb, x, ys, e2, h0, h1, h2⟩ => by
    subst e1
    exact ⟨bb, x, ys, e2, ⟨RkN.mono (thF_sub t.no).exz nz _ _ h0.1, h0.2⟩, z1.rp nz t h1, FzN.rp nz t z2 h2⟩
def FzK (K : PySem.W.Frag) (kt : Cells) : List (Key × D) → List (Key × D) → Prop
  | [], es => es = []
  | (k, d) :: ds, es => ∃ e r, es = (k, e) :: r ∧ FzR K kt d e ∧ FzK K kt ds r
theorem FzK.rp {kt : Cells} (nz : Nz F) (t : Thw K F H kt) : ∀ {ds es : List (Key × D)} {xs : List (Key × V)}, FzK K kt ds es → RpK K F ds xs → RpK K (thF F H kt) es xs
  | [], es, xs, z, h => by
    obtain rfl : es = [] := z
    exact h
  | (k, d) :: ds, es, xs, ⟨e, r, e1, z1, z2⟩, ⟨x, ys, e2, h1, h2⟩ => by
    subst e1
    exact ⟨x, ys, e2, z1.rp nz t h1, FzK.rp nz t z2 h2⟩
end
end DL

/-! FS: walks through all things, deepest first; lots of things that lead to one another, numbered; in plain Lean (own work). -/
namespace DL
section
variable {α : Type} [DecidableEq α]
/-- in n steps from x to y -/
inductive LdN (adj : α → List α) : Nat → α → α → Prop where
  | nil (x : α) : LdN adj 0 x x
  | cons {n : Nat} {x y z : α} (h : y ∈ adj x) (t : LdN adj n y z) : LdN adj (n + 1) x z
def Ld (adj : α → List α) (x y : α) : Prop := ∃ n, LdN adj n x y
variable {adj : α → List α}
theorem Ld.refl (x : α) : Ld adj x x := ⟨0, .nil x⟩
theorem Ld.step {x y : α} (h : y ∈ adj x) : Ld adj x y := ⟨1, .cons h (.nil y)⟩
theorem LdN.app {n m : Nat} {x y z : α} (h : LdN adj n x y) (t : LdN adj m y z) : ∃ k, LdN adj k x z := by
  induction h with
  | nil x => exact ⟨_, t⟩
  | cons h _ ih =>
    obtain ⟨k, hk⟩ := ih t
    exact ⟨_, .cons h hk⟩
theorem Ld.trans {x y z : α} (h : Ld adj x y) (t : Ld adj y z) : Ld adj x z := h.elim fun _ h => t.elim fun _ t => h.app t
theorem Ld.tail {x y z : α} (h : Ld adj x y) (t : z ∈ adj y) : Ld adj x z := h.trans (.step t)
theorem LdN.in_ {n : Nat} {x y : α} {V : List α} (h : LdN adj n x y) (cl : ∀ x ∈ V, ∀ y ∈ adj x, y ∈ V) (hx : x ∈ V) : y ∈ V := by
  induction h with
  | nil x => exact hx
  | cons h _ ih => exact ih (cl _ hx _ h)
/-- out of a set, there is a step -/
theorem LdN.cross {S : α → Prop} : ∀ {n : Nat} {x r : α}, LdN adj n x r → S x → ¬ S r → ∃ a b m, S a ∧ b ∈ adj a ∧ ¬ S b ∧ m < n ∧ LdN adj m b r ∧ Ld adj x b := by
  intro n
  induction n with
  | zero =>
    intro x r h hx hr
    cases h
    exact absurd hx hr
  | succ n ih =>
    intro x r h hx hr
    cases h with
    | @cons _ _ y _ hy t =>
      by_cases sy : S y
      · obtain ⟨a, b, m, h1, h2, h3, h4, h5, h6⟩ := ih t sy hr
        exact ⟨a, b, m, h1, h2, h3, by omega, h5, (Ld.step hy).trans h6⟩
      · exact ⟨x, y, n, hx, hy, sy, Nat.lt_succ_self _, t, .step hy⟩

/-! ### the order in which things are left -/
/-- all that is left by a moment leads to what is left by then, or to what leads to the one left then -/
def FinO (adj : α → List α) (order : List α) : Prop := ∀ (p : Nat) (x : α), order[p]? = some x → ∀ a ∈ order.take (p + 1), ∀ b ∈ adj a, b ∈ order.take (p + 1) ∨ Ld adj b x
/-- the last one left of all that are reached leads back -/
theorem FinO.back {order : List α} (F : FinO adj order) (nd : order.Nodup) (cl : ∀ x ∈ order, ∀ y ∈ adj x, y ∈ order) : ∀ (n : Nat) {x r : α}, x ∈ order → LdN adj n x r → (∀ z, Ld adj x z → order.idxOf z ≤ order.idxOf r) → Ld adj r x := by
  intro n
  induction n using Nat.strongRecOn with
  | _ n ih =>
    intro x r hx h mx
    have hr : r ∈ order := h.in_ cl hx
    have hp := List.idxOf_lt_length_of_mem hx
    have at_ : order[order.idxOf x]? = some x := by rw [List.getElem?_eq_getElem hp]; exact congrArg some (List.getElem_idxOf hp)
    have tk : ∀ {z : α}, z ∈ order.take (order.idxOf x + 1) ↔ z ∈ order ∧ order.idxOf z ≤ order.idxOf x := fun {z} => by
      constructor
      · intro hz
        have hz2 := List.mem_of_mem_take hz
        refine ⟨hz2, ?_⟩
        obtain ⟨i, hi⟩ := List.getElem?_of_mem hz
        rw [List.getElem?_take] at hi
        split at hi
        · rename_i lt
          have hl := (List.getElem?_eq_some_iff.mp hi).1
          have e := (List.getElem?_eq_some_iff.mp hi).2
          have : order.idxOf z = i := by
            have q := List.getElem_idxOf (List.idxOf_lt_length_of_mem hz2)
            exact (List.getElem_inj nd).mp (q.trans e.symm)
          omega
        · cases hi
      · rintro ⟨hz, hle⟩
        have hl := List.idxOf_lt_length_of_mem hz
        refine List.mem_of_getElem? (i := order.idxOf z) ?_
        rw [List.getElem?_take, if_pos (by omega), List.getElem?_eq_getElem hl]
        exact congrArg some (List.getElem_idxOf hl)
    by_cases hrt : r ∈ order.take (order.idxOf x + 1)
    · have h1 := (tk.mp hrt).2
      have h2 := mx x (Ld.refl x)
      have e : order.idxOf r = order.idxOf x := by omega
      have : r = x := by
        have q1 := List.getElem_idxOf (List.idxOf_lt_length_of_mem hr)
        have q2 := List.getElem_idxOf hp
        simp only [e] at q1
        exact q1.symm.trans q2
      rw [this]
      exact Ld.refl x
    · obtain ⟨a, b, m, h1, h2, h3, h4, h5, h6⟩ := h.cross (S := fun z => z ∈ order.take (order.idxOf x + 1)) (tk.mpr ⟨hx, Nat.le_refl _⟩) hrt
      have hb : b ∈ order := cl _ (List.mem_of_mem_take h1) _ h2
      rcases F _ x at_ a h1 b h2 with z | z
      · exact absurd z h3
      · exact (ih m h4 hb h5 fun z hz => mx z (h6.trans hz)).trans z
/-- on the way: what is left, what is known, what is open (the next place of each) -/
structure DfI (adj : α → List α) (V order known : List α) (stack : List (α × Nat)) : Prop where
  kn : ∀ x, x ∈ known ↔ x ∈ order ∨ x ∈ stack.map (·.1)
  nd : (order ++ stack.map (·.1)).Nodup
  kd : known.Nodup
  inV : ∀ x ∈ known, x ∈ V
  fin : ∀ a ∈ order, ∀ b ∈ adj a, b ∈ known
  F : FinO adj order
  ch : ∀ (pre post : List (α × Nat)) (s t : α × Nat), stack = pre ++ s :: t :: post → t.1 ∈ adj s.1
  pl : ∀ s ∈ stack, s.2 ≤ (adj s.1).length ∧ ∀ j b, j < s.2 → (adj s.1)[j]? = some b → b ∈ known
section
variable {V order known : List α} {stack : List (α × Nat)}
theorem list_nil_or_snoc {β : Type} (xs : List β) : xs = [] ∨ ∃ ys y, xs = ys ++ [y] := by
  by_cases h : xs = []
  · exact .inl h
  · exact .inr ⟨xs.dropLast, xs.getLast h, (List.dropLast_concat_getLast h).symm⟩
theorem snoc_split {β : Type} {xs pre post : List β} {x s t : β} (h : xs ++ [x] = pre ++ s :: t :: post) : (∃ post', xs = pre ++ s :: t :: post') ∨ (xs = pre ++ [s] ∧ x = t) := by
  rcases list_nil_or_snoc post with rfl | ⟨post', y, rfl⟩
  · right
    have h2 : xs ++ [x] = (pre ++ [s]) ++ [t] := by rw [h, List.append_assoc]; rfl
    exact ⟨List.append_inj_left' h2 rfl, by have := List.append_inj_right' h2 rfl; exact List.cons.inj this |>.1⟩
  · left
    have h2 : xs ++ [x] = (pre ++ s :: t :: post') ++ [y] := by rw [h, List.append_assoc]; rfl
    exact ⟨post', List.append_inj_left' h2 rfl⟩
/-- the top's next one is known -/
theorem DfI.old {st : List (α × Nat)} {s : α} {i : Nat} {b : α} (I : DfI adj V order known (st ++ [(s, i)])) (hb : (adj s)[i]? = some b) (hk : b ∈ known) : DfI adj V order known (st ++ [(s, i + 1)]) where
  kn := fun x => by
    have := I.kn x
    rw [List.map_append] at this ⊢
    exact this
  nd := by
    have := I.nd
    rw [List.map_append] at this ⊢
    exact this
  kd := I.kd
  inV := I.inV
  fin := I.fin
  F := I.F
  ch := fun pre post u t h => by
    rcases snoc_split h with ⟨post', h'⟩ | ⟨h1, h2⟩
    · exact I.ch pre (post' ++ [(s, i)]) u t (by rw [h', List.append_assoc]; rfl)
    · have := I.ch pre [] u (s, i) (by rw [h1, List.append_assoc]; rfl)
      rw [← h2]
      exact this
  pl := fun u hu => by
    rcases List.mem_append.mp hu with hu | hu
    · exact I.pl u (List.mem_append_left _ hu)
    · rw [List.mem_singleton.mp hu]
      have h0 := I.pl (s, i) (List.mem_append_right _ (List.mem_singleton.mpr rfl))
      refine ⟨(List.getElem?_eq_some_iff.mp hb).1, fun j c hj hc => ?_⟩
      rcases Nat.lt_or_ge j i with g | g
      · exact h0.2 j c g hc
      · have : j = i := by
          have hj : j < i + 1 := hj
          omega
        subst this
        have hc : (adj s)[j]? = some c := hc
        rw [hb] at hc
        cases hc
        exact hk
/-- the top's next one is new -/
theorem DfI.new {st : List (α × Nat)} {s : α} {i : Nat} {b : α} (I : DfI adj V order known (st ++ [(s, i)])) (hb : (adj s)[i]? = some b) (hk : b ∉ known) (hV : b ∈ V) : DfI adj V order (known ++ [b]) (st ++ [(s, i + 1)] ++ [(b, 0)]) where
  kn := fun x => by
    have := I.kn x
    rw [List.mem_append, this]
    simp only [List.map_append, List.map_cons, List.map_nil, List.mem_append, List.mem_singleton]
    constructor
    · rintro ((h | h | h) | h)
      · exact .inl h
      · exact .inr (.inl (.inl h))
      · exact .inr (.inl (.inr h))
      · exact .inr (.inr h)
    · rintro (h | (h | h) | h)
      · exact .inl (.inl h)
      · exact .inl (.inr (.inl h))
      · exact .inl (.inr (.inr h))
      · exact .inr h
  nd := by
    have h := I.nd
    rw [List.map_append] at h
    rw [List.map_append, List.map_append, ← List.append_assoc, List.nodup_append]
    refine ⟨h, by simp, fun x hx y hy => ?_⟩
    have hy : y = b := by simpa using hy
    rintro rfl
    refine hk (hy ▸ (I.kn x).mpr ?_)
    rw [List.map_append]
    exact List.mem_append.mp hx
  kd := by
    rw [List.nodup_append]
    exact ⟨I.kd, by simp, fun a ha b' hb' => by
      rw [List.mem_singleton] at hb'
      rintro rfl
      exact hk (hb' ▸ ha)⟩
  inV := fun x hx => (List.mem_append.mp hx).elim (I.inV x) fun h => by rw [List.mem_singleton.mp h]; exact hV
  fin := fun a ha c hc => List.mem_append_left _ (I.fin a ha c hc)
  F := I.F
  ch := fun pre post u t h => by
    rcases snoc_split h with ⟨post', h'⟩ | ⟨h1, h2⟩
    · rcases snoc_split h' with ⟨post2, h2⟩ | ⟨h3, h4⟩
      · exact I.ch pre (post2 ++ [(s, i)]) u t (by rw [h2, List.append_assoc]; rfl)
      · have := I.ch pre [] u (s, i) (by rw [h3, List.append_assoc]; rfl)
        rw [← h4]
        exact this
    · have e : u = (s, i + 1) := by
        have := List.append_inj_right' h1 rfl
        exact (List.cons.inj this).1.symm
      rw [e, ← h2]
      exact List.mem_of_getElem? hb
  pl := fun u hu => by
    have up : ∀ {u : α × Nat}, (u.2 ≤ (adj u.1).length ∧ ∀ j c, j < u.2 → (adj u.1)[j]? = some c → c ∈ known) → u.2 ≤ (adj u.1).length ∧ ∀ j c, j < u.2 → (adj u.1)[j]? = some c → c ∈ known ++ [b] := fun h => ⟨h.1, fun j c hj hc => List.mem_append_left _ (h.2 j c hj hc)⟩
    rcases List.mem_append.mp hu with hu | hu
    · rcases List.mem_append.mp hu with hu | hu
      · exact up (I.pl u (List.mem_append_left _ hu))
      · rw [List.mem_singleton.mp hu]
        have h0 := I.pl (s, i) (List.mem_append_right _ (List.mem_singleton.mpr rfl))
        refine ⟨(List.getElem?_eq_some_iff.mp hb).1, fun j c hj hc => ?_⟩
        rcases Nat.lt_or_ge j i with g | g
        · exact List.mem_append_left _ (h0.2 j c g hc)
        · have : j = i := by
            have hj : j < i + 1 := hj
            omega
          subst this
          have hc : (adj s)[j]? = some c := hc
          rw [hb] at hc
          cases hc
          exact List.mem_append_right _ (List.mem_singleton.mpr rfl)
    · rw [List.mem_singleton.mp hu]
      exact ⟨Nat.zero_le _, fun j c h => absurd h (Nat.not_lt_zero _)⟩
/-- what is open leads to the top -/
theorem DfI.chain {st : List (α × Nat)} {s : α} {i : Nat} (I : DfI adj V order known (st ++ [(s, i)])) : ∀ u ∈ st ++ [(s, i)], Ld adj u.1 s := by
  have key : ∀ (k : Nat) (pre post : List (α × Nat)), post.length = k → st ++ [(s, i)] = pre ++ post → ∀ u ∈ post, Ld adj u.1 s := by
    intro k
    induction k with
    | zero =>
      intro pre post hl _ u hu
      rw [List.eq_nil_of_length_eq_zero hl] at hu
      cases hu
    | succ k ih =>
      intro pre post hl e u hu
      cases post with
      | nil => cases hl
      | cons v post =>
        have e2 : st ++ [(s, i)] = (pre ++ [v]) ++ post := by rw [e, List.append_assoc]; rfl
        have rest := ih (pre ++ [v]) post (by simpa using hl) e2
        rcases List.mem_cons.mp hu with rfl | hu
        · cases post with
          | nil =>
            rw [List.append_nil] at e2
            have := List.append_inj_right' e2 rfl
            rw [← (List.cons.inj this).1]
            exact Ld.refl s
          | cons t post => exact (Ld.step (I.ch pre post u t e)).trans (rest t List.mem_cons_self)
        · exact rest u hu
  exact key _ [] _ rfl rfl
/-- the top is left -/
theorem DfI.leave {st : List (α × Nat)} {s : α} {i : Nat} (I : DfI adj V order known (st ++ [(s, i)])) (hi : (adj s).length ≤ i) : DfI adj V (order ++ [s]) known st := by
  have h0 := I.pl (s, i) (List.mem_append_right _ (List.mem_singleton.mpr rfl))
  have sk : ∀ b ∈ adj s, b ∈ known := fun b hb => by
    obtain ⟨j, hj⟩ := List.getElem?_of_mem hb
    exact h0.2 j b (Nat.lt_of_lt_of_le (List.getElem?_eq_some_iff.mp hj).1 hi) hj
  have fin' : ∀ a ∈ order ++ [s], ∀ b ∈ adj a, b ∈ known := fun a ha b hb => by
    rcases List.mem_append.mp ha with ha | ha
    · exact I.fin a ha b hb
    · rw [List.mem_singleton.mp ha] at hb
      exact sk b hb
  have kn' : ∀ x, x ∈ known ↔ x ∈ order ++ [s] ∨ x ∈ st.map (·.1) := fun x => by
    rw [I.kn x, List.map_append, List.map_cons, List.map_nil, List.mem_append, List.mem_append]
    constructor
    · rintro (h | h | h)
      · exact .inl (.inl h)
      · exact .inr h
      · exact .inl (.inr h)
    · rintro ((h | h) | h)
      · exact .inl h
      · exact .inr (.inr h)
      · exact .inr (.inl h)
  refine ⟨kn', ?_, I.kd, I.inV, fin', fun p x hx a ha b hb => ?_, fun pre post u t h => ?_, fun u hu => I.pl u (List.mem_append_left _ hu)⟩
  · have h := I.nd
    rw [List.map_append, List.map_cons, List.map_nil] at h
    refine (List.Perm.nodup_iff ?_).mp h
    rw [List.append_assoc]
    exact List.Perm.append_left _ List.perm_append_comm
  · by_cases hp : p < order.length
    · rw [List.getElem?_append_left hp] at hx
      rw [List.take_append_of_le_length hp] at ha ⊢
      exact I.F p x hx a ha b hb
    · have hl := (List.getElem?_eq_some_iff.mp hx).1
      rw [List.length_append, List.length_singleton] at hl
      have e : p = order.length := by omega
      subst e
      rw [List.getElem?_append_right (Nat.le_refl _), Nat.sub_self] at hx
      cases hx
      have et : (order ++ [s]).take (order.length + 1) = order ++ [s] := List.take_of_length_le (by rw [List.length_append]; exact Nat.le_refl _)
      rw [et] at ha ⊢
      rcases (kn' b).mp (fin' a ha b hb) with h | h
      · exact .inl h
      · obtain ⟨u, hu, rfl⟩ := List.mem_map.mp h
        exact .inr (I.chain u (List.mem_append_left _ hu))
  · exact I.ch pre (post ++ [(s, i)]) u t (by rw [h, List.append_assoc]; rfl)
/-- what is still to be done, where nothing leads on more than D times -/
def DfM (adj : α → List α) (V known : List α) (D : Nat) (stack : List (α × Nat)) : Nat := (V.length - known.length) * (D + 2) + (stack.map fun s => (adj s.1).length + 1 - s.2).sum
theorem sum_snoc (xs : List Nat) (x : Nat) : (xs ++ [x]).sum = xs.sum + x := by simp
theorem DfM.old {st : List (α × Nat)} {s : α} {i D : Nat} (h : i < (adj s).length) : DfM adj V known D (st ++ [(s, i + 1)]) < DfM adj V known D (st ++ [(s, i)]) := by
  unfold DfM
  rw [List.map_append, List.map_append, List.map_cons, List.map_nil, List.map_cons, List.map_nil, sum_snoc, sum_snoc]
  show _ + (_ + ((adj s).length + 1 - (i + 1))) < _ + (_ + ((adj s).length + 1 - i))
  omega
theorem DfM.leave {st : List (α × Nat)} {s : α} {i D : Nat} (h : i ≤ (adj s).length) : DfM adj V known D st < DfM adj V known D (st ++ [(s, i)]) := by
  unfold DfM
  rw [List.map_append, List.map_cons, List.map_nil, sum_snoc]
  show _ < _ + (_ + ((adj s).length + 1 - i))
  omega
theorem DfM.new {st : List (α × Nat)} {s b : α} {i D : Nat} (I : DfI adj V order known (st ++ [(s, i)])) (hk : b ∉ known) (hV : b ∈ V) (hD : (adj b).length ≤ D) (h : i < (adj s).length) : DfM adj V (known ++ [b]) D (st ++ [(s, i + 1)] ++ [(b, 0)]) < DfM adj V known D (st ++ [(s, i)]) := by
  unfold DfM
  have hl : (known ++ [b]).length ≤ V.length := nd_sub (by
    rw [List.nodup_append]
    exact ⟨I.kd, by simp, fun a ha b' hb' => by
      rw [List.mem_singleton] at hb'
      rintro rfl
      exact hk (hb' ▸ ha)⟩) fun x hx => (List.mem_append.mp hx).elim (I.inV x) fun h => by rw [List.mem_singleton.mp h]; exact hV
  rw [List.length_append, List.length_singleton] at hl ⊢
  rw [List.map_append, List.map_append, List.map_append, List.map_cons, List.map_nil, List.map_cons, List.map_nil, List.map_cons, List.map_nil, sum_snoc, sum_snoc, sum_snoc]
  show _ + (_ + ((adj s).length + 1 - (i + 1)) + ((adj b).length + 1 - 0)) < _ + (_ + ((adj s).length + 1 - i))
  have e : V.length - known.length = (V.length - (known.length + 1)) + 1 := by omega
  rw [e, Nat.add_mul, Nat.one_mul]
  omega
end

/-! ### lots of things that lead to one another -/
/-- all things of V numbered: the same number, and they lead to one another; no step leads to a lesser number -/
structure LotO (adj : α → List α) (V : List α) (nm : List (α × Nat)) : Prop where
  nd : (nm.map (·.1)).Nodup
  all : ∀ x, x ∈ V ↔ x ∈ nm.map (·.1)
  same : ∀ x y i, (x, i) ∈ nm → (y, i) ∈ nm → Ld adj x y
  up : ∀ x y i j, y ∈ adj x → (x, i) ∈ nm → (y, j) ∈ nm → i ≤ j
/-- between two first ones: n numbers are taken -/
structure LotI (adj : α → List α) (V done : List α) (n : Nat) (nm : List (α × Nat)) : Prop where
  nd : (nm.map (·.1)).Nodup
  inV : ∀ x ∈ nm.map (·.1), x ∈ V
  dn : ∀ x ∈ done, x ∈ nm.map (·.1)
  lt : ∀ p ∈ nm, p.2 < n
  pre : ∀ x ∈ V, ∀ y ∈ adj x, y ∈ nm.map (·.1) → x ∈ nm.map (·.1)
  same : ∀ x y i, (x, i) ∈ nm → (y, i) ∈ nm → Ld adj x y
  up : ∀ x y i j, y ∈ adj x → (x, i) ∈ nm → (y, j) ∈ nm → i ≤ j
/-- while a lot is gathered from r on: mm those of the lot, q those whose sources are still to be seen, S the sources seen of the one at hand -/
structure LotG (adj : α → List α) (V : List α) (r : α) (nm : List (α × Nat)) (mm q : List α) (c : Option α) (S : List α) : Prop where
  nd : (nm.map (·.1) ++ mm).Nodup
  inV : ∀ x ∈ mm, x ∈ V
  rm : r ∈ mm
  to : ∀ x ∈ mm, Ld adj x r
  qm : ∀ x ∈ q, x ∈ mm
  cm : ∀ x, c = some x → x ∈ mm
  pre : ∀ y ∈ mm, y ∉ q → c ≠ some y → ∀ x ∈ V, y ∈ adj x → x ∈ nm.map (·.1) ++ mm
  cS : ∀ y x, c = some y → x ∈ S → x ∈ nm.map (·.1) ++ mm
section
variable {V done mm q : List α} {nm : List (α × Nat)} {n : Nat} {r y : α} {S : List α}
theorem LotI.first (I : LotI adj V done n nm) (hr : r ∉ nm.map (·.1)) (hV : r ∈ V) : LotG adj V r nm [r] [r] none [] where
  nd := by
    rw [List.nodup_append]
    exact ⟨I.nd, by simp, fun a ha b hb => by
      rw [List.mem_singleton] at hb
      rintro rfl
      exact hr (hb ▸ ha)⟩
  inV := fun x hx => by rw [List.mem_singleton.mp hx]; exact hV
  rm := List.mem_singleton.mpr rfl
  to := fun x hx => by rw [List.mem_singleton.mp hx]; exact Ld.refl r
  qm := fun x hx => hx
  cm := fun x h => nomatch h
  pre := fun y hy hq => absurd hy hq
  cS := fun y x h => nomatch h
/-- the last of the queue is taken up -/
theorem LotG.take (G : LotG adj V r nm mm (q ++ [y]) none []) : LotG adj V r nm mm q (some y) [] where
  nd := G.nd
  inV := G.inV
  rm := G.rm
  to := G.to
  qm := fun x hx => G.qm x (List.mem_append_left _ hx)
  cm := fun x h => by
    cases h
    exact G.qm y (List.mem_append_right _ (List.mem_singleton.mpr rfl))
  pre := fun z hz hq hc => G.pre z hz (fun h => by
    rcases List.mem_append.mp h with h | h
    · exact hq h
    · exact hc (by rw [List.mem_singleton.mp h])) (fun h => nomatch h)
  cS := fun z x _ h => nomatch h
/-- a source that has a number -/
theorem LotG.old {x : α} (G : LotG adj V r nm mm q (some y) S) (hx : x ∈ nm.map (·.1) ++ mm) : LotG adj V r nm mm q (some y) (S ++ [x]) := { G with
  cS := fun z u h hu => by
    rcases List.mem_append.mp hu with hu | hu
    · exact G.cS z u h hu
    · rw [List.mem_singleton.mp hu]
      exact hx }
/-- a source without one -/
theorem LotG.new {x : α} (G : LotG adj V r nm mm q (some y) S) (hx : x ∉ nm.map (·.1) ++ mm) (hV : x ∈ V) (hy : y ∈ adj x) : LotG adj V r nm (mm ++ [x]) (q ++ [x]) (some y) (S ++ [x]) where
  nd := by
    rw [← List.append_assoc, List.nodup_append]
    exact ⟨G.nd, by simp, fun a ha b hb => by
      rw [List.mem_singleton] at hb
      rintro rfl
      exact hx (hb ▸ ha)⟩
  inV := fun z hz => (List.mem_append.mp hz).elim (G.inV z) fun h => by rw [List.mem_singleton.mp h]; exact hV
  rm := List.mem_append_left _ G.rm
  to := fun z hz => (List.mem_append.mp hz).elim (G.to z) fun h => by
    rw [List.mem_singleton.mp h]
    exact (Ld.step hy).trans (G.to y (G.cm y rfl))
  qm := fun z hz => (List.mem_append.mp hz).elim (fun h => List.mem_append_left _ (G.qm z h)) fun h => List.mem_append_right _ h
  cm := fun z h => List.mem_append_left _ (G.cm z h)
  pre := fun z hz hq hc u hu he => by
    rcases List.mem_append.mp hz with hz | hz
    · have := G.pre z hz (fun h => hq (List.mem_append_left _ h)) hc u hu he
      rw [← List.append_assoc]
      exact List.mem_append_left _ this
    · exact absurd (List.mem_append_right _ hz) hq
  cS := fun z u h hu => by
    rw [← List.append_assoc]
    rcases List.mem_append.mp hu with hu | hu
    · exact List.mem_append_left _ (G.cS z u h hu)
    · exact List.mem_append_right _ hu
/-- one that has a number already -/
theorem LotI.skip (I : LotI adj V done n nm) (hr : r ∈ nm.map (·.1)) : LotI adj V (done ++ [r]) n nm := { I with
  dn := fun x hx => (List.mem_append.mp hx).elim (I.dn x) fun h => by rw [List.mem_singleton.mp h]; exact hr }
/-- two that lead to one another have the same number -/
theorem LotO.eq (O : LotO adj V nm) (cl : ∀ x ∈ V, ∀ y ∈ adj x, y ∈ V) {x y : α} {i j : Nat} (hx : (x, i) ∈ nm) (hy : (y, j) ∈ nm) (h1 : Ld adj x y) (h2 : Ld adj y x) : i = j := by
  have mono : ∀ (k : Nat) (x y : α), LdN adj k x y → ∀ i j, (x, i) ∈ nm → (y, j) ∈ nm → i ≤ j := fun k x y h => by
    induction h with
    | nil x =>
      intro i j hi hj
      have : i = j := by
        have h1 := O.nd
        obtain ⟨a, ha⟩ := List.getElem?_of_mem hi
        obtain ⟨b, hb⟩ := List.getElem?_of_mem hj
        have e1 : (nm.map (·.1))[a]? = some x := by rw [List.getElem?_map, ha]; rfl
        have e2 : (nm.map (·.1))[b]? = some x := by rw [List.getElem?_map, hb]; rfl
        have := (List.getElem?_inj (List.getElem?_eq_some_iff.mp e1).1 h1).mp (e1.trans e2.symm)
        subst this
        rw [ha] at hb
        exact (Prod.mk.inj (Option.some.inj hb)).2
      omega
    | @cons n x y z h t ih =>
      intro i j hi hj
      have yV : y ∈ V := cl x ((O.all x).mpr (List.mem_map.mpr ⟨_, hi, rfl⟩)) y h
      obtain ⟨p, hp, e⟩ := List.mem_map.mp ((O.all y).mp yV)
      have hp' : (y, p.2) ∈ nm := by rw [← e]; exact hp
      have := O.up x y i p.2 h hi hp'
      have := ih p.2 j hp' hj
      omega
  obtain ⟨a, h1⟩ := h1
  obtain ⟨b, h2⟩ := h2
  have := mono a x y h1 i j hx hy
  have := mono b y x h2 j i hy hx
  omega
end
end
end DL

/-! FT: standings (a post, open atoms), moves between them, as they are gathered (own work). -/
namespace DL
open PySem L2 PySem.W PyProof.Rows

abbrev L3 := Str × Str × Str
abbrev Sd := Str × List Nat
/-- the moves of a standing -/
def sdSc (es : List L3) (m : Mc) (s : Sd) : List (Str × Sd) := (es.filter fun r => decide (r.2.1 = s.1) && !doneM m (begM m s.2 r.1)).map fun r => (r.1, (r.2.2, begM m s.2 r.1))
abbrev sdA (es : List L3) (m : Mc) (s : Sd) : List Sd := (sdSc es m s).map (·.2)
abbrev Mv := List (Sd × List (Str × Sd))
/-! ### gathering moves -/
structure MIn (es : List L3) (m : Mc) (ps : List Str) (n : Nat) (E : List (Str × Sd)) (qs : List Sd) (cs : List (List (Str × Sd))) : Prop where
  nd : qs.Nodup
  ini : ∀ p ∈ ps, (p, []) ∈ qs
  ln : cs.length = qs.length
  dn : ∀ (i : Nat) c, i < n → qs[i]? = some c → cs[i]? = some (sdSc es m c)
  at_ : ∀ c, qs[n]? = some c → cs[n]? = some E
  af : ∀ i, n < i → i < qs.length → cs[i]? = some []
  cl : ∀ l ∈ cs, ∀ e ∈ l, e.2 ∈ qs
  rc : ∀ s ∈ qs, ∃ p ∈ ps, Ld (sdA es m) (p, []) s
structure MvOk (es : List L3) (m : Mc) (ps : List Str) (mv : Mv) : Prop where
  nd : (mv.map (·.1)).Nodup
  ini : ∀ p ∈ ps, (p, []) ∈ mv.map (·.1)
  sc : ∀ x ∈ mv, x.2 = sdSc es m x.1
  cl : ∀ s ∈ mv.map (·.1), ∀ t ∈ sdA es m s, t ∈ mv.map (·.1)
  rc : ∀ s ∈ mv.map (·.1), ∃ p ∈ ps, Ld (sdA es m) (p, []) s
section
variable {es : List L3} {m : Mc} {ps : List Str} {n : Nat} {E : List (Str × Sd)} {qs : List Sd} {cs : List (List (Str × Sd))}
theorem MIn.old (I : MIn es m ps n E qs cs) {c : Sd} (hc : qs[n]? = some c) {e : Str × Sd} (h : e.2 ∈ qs) : MIn es m ps n (E ++ [e]) qs (cs.set n (E ++ [e])) where
  nd := I.nd
  ini := I.ini
  ln := by rw [List.length_set]; exact I.ln
  dn := fun i d hi hd => by
    rw [List.getElem?_set_ne (by omega)]
    exact I.dn i d hi hd
  at_ := fun d hd => by
    rw [List.getElem?_set_self (by rw [I.ln]; exact (List.getElem?_eq_some_iff.mp hc).1)]
  af := fun i hi hl => by
    rw [List.getElem?_set_ne (by omega)]
    exact I.af i hi hl
  cl := fun l hl f hf => by
    rcases List.mem_or_eq_of_mem_set hl with hl | rfl
    · exact I.cl l hl f hf
    · rcases List.mem_append.mp hf with hf | hf
      · exact I.cl E (List.mem_of_getElem? (I.at_ c hc)) f hf
      · rw [List.mem_singleton.mp hf]
        exact h
  rc := I.rc
theorem MIn.new (I : MIn es m ps n E qs cs) {c : Sd} (hc : qs[n]? = some c) {e : Str × Sd} (he : e.2 ∈ sdA es m c) (h : e.2 ∉ qs) : MIn es m ps n (E ++ [e]) (qs ++ [e.2]) (cs.set n (E ++ [e]) ++ [[]]) where
  nd := by
    rw [List.nodup_append]
    exact ⟨I.nd, by simp, fun a ha b hb => by
      rw [List.mem_singleton] at hb
      rintro rfl
      exact h (hb ▸ ha)⟩
  ini := fun p hp => List.mem_append_left _ (I.ini p hp)
  ln := by rw [List.length_append, List.length_set, List.length_append, I.ln]; rfl
  dn := fun i d hi hd => by
    have hl := (List.getElem?_eq_some_iff.mp hc).1
    rw [List.getElem?_append_left (by omega)] at hd
    rw [List.getElem?_append_left (by rw [List.length_set, I.ln]; omega), List.getElem?_set_ne (by omega)]
    exact I.dn i d hi hd
  at_ := fun d _ => by
    have hl := (List.getElem?_eq_some_iff.mp hc).1
    rw [List.getElem?_append_left (by rw [List.length_set, I.ln]; omega), List.getElem?_set_self (by rw [I.ln]; exact hl)]
  af := fun i hi hl => by
    rw [List.length_append, List.length_singleton] at hl
    by_cases g : i < qs.length
    · rw [List.getElem?_append_left (by rw [List.length_set, I.ln]; omega), List.getElem?_set_ne (by omega)]
      exact I.af i hi g
    · have : i = qs.length := by omega
      subst this
      rw [List.getElem?_append_right (by rw [List.length_set, I.ln]; exact Nat.le_refl _), List.length_set, I.ln, Nat.sub_self]
      rfl
  cl := fun l hl f hf => by
    rcases List.mem_append.mp hl with hl | hl
    · rcases List.mem_or_eq_of_mem_set hl with hl | rfl
      · exact List.mem_append_left _ (I.cl l hl f hf)
      · rcases List.mem_append.mp hf with hf | hf
        · exact List.mem_append_left _ (I.cl E (List.mem_of_getElem? (I.at_ c hc)) f hf)
        · rw [List.mem_singleton.mp hf]
          exact List.mem_append_right _ (List.mem_singleton.mpr rfl)
    · rw [List.mem_singleton.mp hl] at hf
      cases hf
  rc := fun s hs => by
    rcases List.mem_append.mp hs with hs | hs
    · exact I.rc s hs
    · rw [List.mem_singleton.mp hs]
      obtain ⟨p, hp, h⟩ := I.rc c (List.mem_of_getElem? hc)
      exact ⟨p, hp, h.tail he⟩
theorem MIn.next (I : MIn es m ps n E qs cs) (hE : ∀ c, qs[n]? = some c → E = sdSc es m c) : MIn es m ps (n + 1) [] qs cs where
  nd := I.nd
  ini := I.ini
  ln := I.ln
  dn := fun i d hi hd => by
    rcases Nat.lt_or_ge i n with g | g
    · exact I.dn i d g hd
    · have : i = n := by omega
      subst this
      rw [I.at_ d hd, hE d hd]
  at_ := fun d hd => I.af (n + 1) (Nat.lt_succ_self _) (List.getElem?_eq_some_iff.mp hd).1
  af := fun i hi hl => I.af i (by omega) hl
  cl := I.cl
  rc := I.rc
/-- standings met out of a row: no more than it has -/
theorem MIn.few (I : MIn es m ps n E qs cs) {N : List Sd} (h0 : ∀ p ∈ ps, (p, []) ∈ N) (hN : ∀ x ∈ N, ∀ y ∈ sdA es m x, y ∈ N) : qs.length ≤ N.length := nd_sub I.nd fun x hx => by
  obtain ⟨p, hp, k, hk⟩ := I.rc x hx
  exact hk.in_ hN (h0 p hp)
end
end DL

/-! FU: rows by standings and their lists, as data and as cells; what leads to each standing (own work). -/
namespace DL
open PySem L2 PySem.W PyProof.Rows

/-- where a standing leads -/
def mvA (mv : Mv) (s : Sd) : List Sd := match mv.find? fun x => decide (x.1 = s) with
  | some x => x.2.map (·.2)
  | none => []
theorem mvA_at {mv : Mv} (hn : (mv.map (·.1)).Nodup) {x : Sd × List (Str × Sd)} (h : x ∈ mv) : mvA mv x.1 = x.2.map (·.2) := by
  unfold mvA
  have : mv.find? (fun y => decide (y.1 = x.1)) = some x := by
    induction mv with
    | nil => cases h
    | cons y mv ih =>
      have hn2 := List.nodup_cons.mp (by rw [List.map_cons] at hn; exact hn)
      rw [List.find?_cons]
      rcases List.mem_cons.mp h with rfl | h
      · rw [decide_eq_true rfl]
      · have : ¬ y.1 = x.1 := fun e => hn2.1 (e ▸ List.mem_map.mpr ⟨x, h, rfl⟩)
        rw [decide_eq_false this]
        exact ih hn2.2 h
  rw [this]
theorem mvA_mem {mv : Mv} {s t : Sd} (h : t ∈ mvA mv s) : ∃ x ∈ mv, x.1 = s ∧ t ∈ x.2.map (·.2) := by
  unfold mvA at h
  cases e : mv.find? (fun x => decide (x.1 = s)) with
  | none => rw [e] at h; cases h
  | some x =>
    rw [e] at h
    exact ⟨x, List.mem_of_find?_eq_some e, by simpa using List.find?_some e, h⟩
/-- all moves without their lanes -/
def edR (mv : Mv) : List (Sd × Sd) := mv.flatMap fun x => x.2.map fun e => (x.1, e.2)
/-- moves that a walk may go through: told once each, none leads out, not too many -/
structure MvW (mv : Mv) : Prop where
  nd : (mv.map (·.1)).Nodup
  cl : ∀ x ∈ mv, ∀ e ∈ x.2, e.2 ∈ mv.map (·.1)
  few : (edR mv).length ≤ 90000
  mn : mv.length ≤ 40000
  rw : ∀ x ∈ mv, x.2.length ≤ 1000
theorem MvW.to {mv : Mv} (W : MvW mv) {s t : Sd} (h : t ∈ mvA mv s) : t ∈ mv.map (·.1) := by
  obtain ⟨x, hx, _, q⟩ := mvA_mem h
  obtain ⟨e, he, rfl⟩ := List.mem_map.mp q
  exact W.cl x hx e he
theorem DfI.few {adj : Sd → List Sd} {V order known : List Sd} {stack : List (Sd × Nat)} (I : DfI adj V order known stack) : order.length + stack.length ≤ V.length ∧ known.length ≤ V.length := by
  have h1 := nd_sub I.nd (ys := V) fun x hx => I.inV x ((I.kn x).mpr (List.mem_append.mp hx))
  rw [List.length_append, List.length_map] at h1
  exact ⟨h1, nd_sub I.kd fun x hx => I.inV x hx⟩
section
variable {wd : World} {K : PySem.W.Frag} {ro : Ro} {ka : Cells} {te : TE} {P R : W → Cells → Prop}
end
end DL

/-! FV: lanes on moves between standings of one number, dicts of dicts (own work). -/
namespace DL
open PySem L2 PySem.W PyProof.Rows

def edL (mv : Mv) : List (Sd × Str × Sd) := mv.flatMap fun x => x.2.map fun e => (x.1, e.1, e.2)
theorem edL_mem {mv : Mv} {s t : Sd} {l : Str} : (s, l, t) ∈ edL mv ↔ ∃ x ∈ mv, x.1 = s ∧ (l, t) ∈ x.2 := by
  unfold edL
  rw [List.mem_flatMap]
  constructor
  · rintro ⟨x, hx, h⟩
    obtain ⟨e, he, q⟩ := List.mem_map.mp h
    cases q
    exact ⟨x, hx, rfl, he⟩
  · rintro ⟨x, hx, rfl, h⟩
    exact ⟨x, hx, List.mem_map.mpr ⟨_, h, rfl⟩⟩
/-- the lanes on moves within a number -/
def ilL (nm : List (Sd × Nat)) (E : List (Sd × Str × Sd)) (n : Nat) : List Str := (E.filter fun e => decide ((e.1, n) ∈ nm) && decide ((e.2.2, n) ∈ nm)).map (·.2.1)
theorem ilL_in {nm : List (Sd × Nat)} {E : List (Sd × Str × Sd)} {n : Nat} {e : Sd × Str × Sd} (h1 : (e.1, n) ∈ nm) (h2 : (e.2.2, n) ∈ nm) : ilL nm (E ++ [e]) n = ilL nm E n ++ [e.2.1] := by
  unfold ilL
  rw [List.filter_append, List.map_append, List.filter_cons, decide_eq_true h1, decide_eq_true h2]
  rfl
theorem ilL_out {nm : List (Sd × Nat)} {E : List (Sd × Str × Sd)} {n : Nat} {e : Sd × Str × Sd} (h : ¬ ((e.1, n) ∈ nm ∧ (e.2.2, n) ∈ nm)) : ilL nm (E ++ [e]) n = ilL nm E n := by
  unfold ilL
  rw [List.filter_append, List.map_append, List.filter_cons]
  have : (decide ((e.1, n) ∈ nm) && decide ((e.2.2, n) ∈ nm)) = false := by
    rw [← Bool.not_eq_true, Bool.and_eq_true, decide_eq_true_eq, decide_eq_true_eq]
    exact h
  rw [this]
  exact List.append_nil _
theorem ilL_mem {nm : List (Sd × Nat)} {E : List (Sd × Str × Sd)} {n : Nat} {l : Str} : l ∈ ilL nm E n ↔ ∃ s t, (s, l, t) ∈ E ∧ (s, n) ∈ nm ∧ (t, n) ∈ nm := by
  unfold ilL
  rw [List.mem_map]
  constructor
  · rintro ⟨⟨s, l', t⟩, h, rfl⟩
    obtain ⟨h1, h2⟩ := List.mem_filter.mp h
    rw [Bool.and_eq_true, decide_eq_true_eq, decide_eq_true_eq] at h2
    exact ⟨s, t, h1, h2⟩
  · rintro ⟨s, t, h, h1, h2⟩
    exact ⟨(s, l, t), List.mem_filter.mpr ⟨h, by rw [decide_eq_true h1, decide_eq_true h2]; rfl⟩, rfl⟩
/-- two numbers of one standing are the same -/
theorem num_one {nm : List (Sd × Nat)} (hn : (nm.map (·.1)).Nodup) {s : Sd} {i j : Nat} (h1 : (s, i) ∈ nm) (h2 : (s, j) ∈ nm) : i = j := by
  induction nm with
  | nil => cases h1
  | cons x nm ih =>
    have hn2 := List.nodup_cons.mp (by rw [List.map_cons] at hn; exact hn)
    rcases List.mem_cons.mp h1 with e1 | h1 <;> rcases List.mem_cons.mp h2 with e2 | h2
    · rw [← e1] at e2
      exact (Prod.mk.inj e2).2.symm
    · exact absurd (List.mem_map.mpr ⟨_, h2, by rw [← e1]⟩) hn2.1
    · exact absurd (List.mem_map.mpr ⟨_, h1, by rw [← e2]⟩) hn2.1
    · exact ih hn2.2 h1 h2
/-! ### dicts behind numbers -/
/-- each number: its dict's place among those made -/
def ilR (as : List Addr) (rows : List (Nat × Nat)) : List (Key × D) := rows.map fun r => (Sum.inl (r.1 : Int), D.adr (as[r.2]?.getD 0))
structure IlR (nm : List (Sd × Nat)) (len : Nat) (rows : List (Nat × Nat)) : Prop where
  n1 : (rows.map (·.1)).Nodup
  n2 : (rows.map (·.2)).Nodup
  lt : ∀ r ∈ rows, r.2 < len
  mem : ∀ n, n ∈ rows.map (·.1) ↔ n ∈ nm.map (·.2)
theorem int_inl {i j : Nat} (h : (Sum.inl (i : Int) : Key) = Sum.inl (j : Int)) : i = j := by
  injection h with h
  omega
theorem ilR_has {as : List Addr} {rows : List (Nat × Nat)} {n : Nat} : hasT (ilR as rows) (Sum.inl (n : Int)) = decide (n ∈ rows.map (·.1)) := by
  rw [Bool.eq_iff_iff, decide_eq_true_eq]
  unfold hasT ilR
  rw [List.any_map, List.any_eq_true]
  constructor
  · rintro ⟨r, hr, h⟩
    exact List.mem_map.mpr ⟨r, hr, int_inl (of_decide_eq_true h)⟩
  · intro h
    obtain ⟨r, hr, rfl⟩ := List.mem_map.mp h
    exact ⟨r, hr, decide_eq_true rfl⟩
theorem ilR_more {as : List Addr} {rows : List (Nat × Nat)} {a : Addr} (h : ∀ r ∈ rows, r.2 < as.length) : ilR (as ++ [a]) rows = ilR as rows := by
  unfold ilR
  refine List.map_congr_left fun r hr => ?_
  rw [List.getElem?_append_left (h r hr)]
theorem IlR.put {nm : List (Sd × Nat)} {i : Nat} {rows : List (Nat × Nat)} (I : IlR (nm.take i) i rows) {x : Sd × Nat} (h : nm[i]? = some x) {as : List Addr} (hl : as.length = i) (a : Addr) : ∃ rows', putT (ilR as rows) (Sum.inl (x.2 : Int)) (.adr a) = ilR (as ++ [a]) rows' ∧ IlR (nm.take (i + 1)) (i + 1) rows' := by
  have hlt : ∀ r ∈ rows, r.2 < as.length := fun r hr => by rw [hl]; exact I.lt r hr
  have hmem : ∀ n, n ∈ (nm.take (i + 1)).map (·.2) ↔ n ∈ (nm.take i).map (·.2) ∨ n = x.2 := fun n => by
    rw [take_succ_some h, List.map_append, List.mem_append]
    simp
  by_cases hx : x.2 ∈ rows.map (·.1)
  · refine ⟨rows.map fun r => if r.1 = x.2 then (r.1, i) else r, ?_, ?_, ?_, ?_, fun n => ?_⟩
    · unfold putT
      rw [ilR_has, if_pos (decide_eq_true hx)]
      unfold ilR
      rw [List.map_map, List.map_map]
      refine List.map_congr_left fun r hr => ?_
      simp only [Function.comp, newAt]
      by_cases e : r.1 = x.2
      · rw [if_pos (by rw [e]), if_pos e]
        simp only
        rw [List.getElem?_append_right (by omega), hl, Nat.sub_self]
        rfl
      · rw [if_neg (fun z => e (int_inl z)), if_neg e, List.getElem?_append_left (hlt r hr)]
    · rw [List.map_map, show ((fun x => x.1) ∘ fun r : Nat × Nat => if r.1 = x.2 then (r.1, i) else r) = fun r => r.1 from funext fun r => by simp only [Function.comp]; split <;> rfl]
      exact I.n1
    · have n1 := I.n1
      have n2 := I.n2
      have lt := I.lt
      clear hmem hlt hx I
      induction rows with
      | nil => exact List.nodup_nil
      | cons r rows ih =>
        rw [List.map_cons] at n1 n2
        have q1 := List.nodup_cons.mp n1
        have q2 := List.nodup_cons.mp n2
        rw [List.map_cons, List.map_cons, List.nodup_cons]
        refine ⟨fun hm => ?_, ih q1.2 q2.2 fun r hr => lt r (List.mem_cons_of_mem _ hr)⟩
        rw [List.map_map] at hm
        obtain ⟨r', h1, h2⟩ := List.mem_map.mp hm
        have l1 := lt r List.mem_cons_self
        have l2 := lt r' (List.mem_cons_of_mem _ h1)
        simp only [Function.comp] at h2
        by_cases e : r.1 = x.2 <;> by_cases e' : r'.1 = x.2
        · exact q1.1 (e.trans e'.symm ▸ List.mem_map.mpr ⟨r', h1, rfl⟩)
        · rw [if_pos e, if_neg e'] at h2
          simp only at h2
          omega
        · rw [if_neg e, if_pos e'] at h2
          simp only at h2
          omega
        · rw [if_neg e, if_neg e'] at h2
          exact q2.1 (h2 ▸ List.mem_map.mpr ⟨r', h1, rfl⟩)
    · intro r hr
      obtain ⟨r', h1, rfl⟩ := List.mem_map.mp hr
      have := I.lt r' h1
      split
      · exact Nat.lt_succ_self _
      · omega
    · rw [hmem, ← I.mem, List.map_map, show ((fun x => x.1) ∘ fun r : Nat × Nat => if r.1 = x.2 then (r.1, i) else r) = fun r => r.1 from funext fun r => by simp only [Function.comp]; split <;> rfl]
      exact ⟨.inl, fun h => h.elim id fun e => e ▸ hx⟩
  · refine ⟨rows ++ [(x.2, i)], ?_, ?_, ?_, ?_, fun n => ?_⟩
    · unfold putT
      rw [ilR_has, if_neg (by simpa using hx)]
      conv => lhs; rw [← ilR_more (a := a) hlt]
      unfold ilR
      rw [List.map_append, List.map_cons, List.map_nil]
      simp only
      rw [List.getElem?_append_right (by omega), hl, Nat.sub_self]
      rfl
    · rw [List.map_append, List.nodup_append]
      refine ⟨I.n1, by simp, fun u hu v hv => ?_⟩
      rw [List.map_cons, List.map_nil, List.mem_singleton] at hv
      have hv : v = x.2 := hv
      rintro rfl
      exact hx (hv ▸ hu)
    · rw [List.map_append, List.nodup_append]
      refine ⟨I.n2, by simp, fun u hu v hv => ?_⟩
      rw [List.map_cons, List.map_nil, List.mem_singleton] at hv
      obtain ⟨r, hr, rfl⟩ := List.mem_map.mp hu
      have := I.lt r hr
      omega
    · intro r hr
      rcases List.mem_append.mp hr with hr | hr
      · have := I.lt r hr
        omega
      · rw [List.mem_singleton.mp hr]
        exact Nat.lt_succ_self _
    · rw [hmem, ← I.mem, List.map_append, List.mem_append]
      simp
/-- what each number's dict holds behind some moves -/
structure IlS (nm : List (Sd × Nat)) (rows : List (Nat × Nat)) (len : Nat) (E : List (Sd × Str × Sd)) (ls : List (List Str)) : Prop where
  ln : ls.length = len
  at_ : ∀ r ∈ rows, ls[r.2]? = some (dedS (ilL nm E r.1))
theorem IlS.skip {nm : List (Sd × Nat)} {rows : List (Nat × Nat)} {len : Nat} {E : List (Sd × Str × Sd)} {ls : List (List Str)} (I : IlS nm rows len E ls) {e : Sd × Str × Sd} (h : ∀ n, ¬ ((e.1, n) ∈ nm ∧ (e.2.2, n) ∈ nm)) : IlS nm rows len (E ++ [e]) ls where
  ln := I.ln
  at_ := fun r hr => by rw [ilL_out (h r.1)]; exact I.at_ r hr
theorem IlS.more {nm : List (Sd × Nat)} {rows : List (Nat × Nat)} {len : Nat} {E : List (Sd × Str × Sd)} {ls : List (List Str)} (I : IlS nm rows len E ls) (hn : (nm.map (·.1)).Nodup) (n1 : (rows.map (·.1)).Nodup) (n2 : (rows.map (·.2)).Nodup) {e : Sd × Str × Sd} {r : Nat × Nat} (hr : r ∈ rows) (h1 : (e.1, r.1) ∈ nm) (h2 : (e.2.2, r.1) ∈ nm) : IlS nm rows len (E ++ [e]) (ls.set r.2 (dedS (ilL nm E r.1 ++ [e.2.1]))) where
  ln := by rw [List.length_set]; exact I.ln
  at_ := fun r' hr' => by
    have hl := (List.getElem?_eq_some_iff.mp (I.at_ r hr)).1
    by_cases e' : r'.1 = r.1
    · have : r' = r := nd_inj n1 hr' hr e'
      subst this
      rw [List.getElem?_set_self hl, ilL_in h1 h2]
    · have hne : r.2 ≠ r'.2 := fun z => e' (by rw [nd_inj n2 hr' hr z.symm])
      rw [List.getElem?_set_ne hne, ilL_out fun ⟨q1, _⟩ => e' (num_one hn q1 h1)]
      exact I.at_ r' hr'
where
  nd_inj {f : Nat × Nat → Nat} {rows : List (Nat × Nat)} (n : (rows.map f).Nodup) {a b : Nat × Nat} (ha : a ∈ rows) (hb : b ∈ rows) (h : f a = f b) : a = b := by
    induction rows with
    | nil => cases ha
    | cons x rows ih =>
      have q := List.nodup_cons.mp (by rw [List.map_cons] at n; exact n)
      rcases List.mem_cons.mp ha with e1 | h1 <;> rcases List.mem_cons.mp hb with e2 | h2
      · rw [e1, e2]
      · exact absurd (List.mem_map.mpr ⟨b, h2, by rw [← h, e1]⟩) q.1
      · exact absurd (List.mem_map.mpr ⟨a, h1, by rw [h, e2]⟩) q.1
      · exact ih q.2 h1 h2
end DL
namespace DL
open PySem L2 PySem.W PyProof.Rows
/-! ### a round along moves that takes all wanted lanes -/
def AvN (nm : List (Sd × Nat)) (E : List (Sd × Str × Sd)) (gs : List Str) (d : D) : Prop :=
  (d = .non ∧ ∀ n ∈ nm.map (·.2), ¬ ∀ g ∈ gs, g ∈ ilL nm E n) ∨ ∃ n : Nat, d = .int (n : Int) ∧ n ∈ nm.map (·.2) ∧ ∀ g ∈ gs, g ∈ ilL nm E n
/-- a standing from which each wanted lane can be taken, and back -/
def AvP (mv : Mv) (gs : List Str) : Prop := ∃ s ∈ mv.map (·.1), ∀ g ∈ gs, ∃ u v, (u, g, v) ∈ edL mv ∧ Ld (mvA mv) s u ∧ Ld (mvA mv) v s
open Classical in
noncomputable def avB (mv : Mv) (gs : List Str) : Bool := decide (AvP mv gs)
open Classical in
theorem avB_iff {mv : Mv} {gs : List Str} : avB mv gs = true ↔ AvP mv gs := decide_eq_true_iff
theorem MvW.lane {mv : Mv} (V : MvW mv) {u v : Sd} {g : Str} (h : (u, g, v) ∈ edL mv) : v ∈ mvA mv u ∧ u ∈ mv.map (·.1) := by
  obtain ⟨x, hx, rfl, he⟩ := edL_mem.mp h
  exact ⟨by rw [mvA_at V.nd hx]; exact List.mem_map.mpr ⟨_, he, rfl⟩, List.mem_map.mpr ⟨x, hx, rfl⟩⟩
theorem LotO.few {mv : Mv} {nm : List (Sd × Nat)} (O : LotO (mvA mv) (mv.map (·.1)) nm) : nm.length ≤ mv.length := by
  have := nd_sub O.nd (ys := mv.map (·.1)) fun x hx => (O.all x).mpr hx
  rw [List.length_map, List.length_map] at this
  exact this
theorem AvN.told {mv : Mv} {nm : List (Sd × Nat)} {gs : List Str} {d : D} (V : MvW mv) (O : LotO (mvA mv) (mv.map (·.1)) nm) (h : AvN nm (edL mv) gs d) : isNonD d = !avB mv gs := by
  have key : AvP mv gs ↔ ∃ n ∈ nm.map (·.2), ∀ g ∈ gs, g ∈ ilL nm (edL mv) n := by
    constructor
    · rintro ⟨s, hs, hg⟩
      obtain ⟨⟨s', n⟩, hsn, e⟩ := List.mem_map.mp ((O.all s).mp hs)
      simp only at e
      subst e
      refine ⟨n, List.mem_map.mpr ⟨_, hsn, rfl⟩, fun g hgm => ?_⟩
      obtain ⟨u, v, he, h1, h2⟩ := hg g hgm
      obtain ⟨hv, hu⟩ := V.lane he
      obtain ⟨⟨u', i⟩, hui, e⟩ := List.mem_map.mp ((O.all u).mp hu)
      simp only at e
      subst e
      obtain ⟨⟨v', j⟩, hvj, e⟩ := List.mem_map.mp ((O.all v).mp (V.to hv))
      simp only at e
      subst e
      have cl : ∀ x ∈ mv.map (·.1), ∀ y ∈ mvA mv x, y ∈ mv.map (·.1) := fun x _ y hy => V.to hy
      have e1 := O.eq cl hsn hui h1 ((Ld.step hv).trans h2)
      have e2 := O.eq cl hsn hvj (h1.tail hv) h2
      subst e1 e2
      exact ilL_mem.mpr ⟨_, _, he, hui, hvj⟩
    · rintro ⟨n, hn, hg⟩
      obtain ⟨⟨s, n'⟩, hsn, e⟩ := List.mem_map.mp hn
      simp only at e
      subst e
      refine ⟨s, (O.all s).mpr (List.mem_map.mpr ⟨_, hsn, rfl⟩), fun g hgm => ?_⟩
      obtain ⟨u, v, he, h1, h2⟩ := ilL_mem.mp (hg g hgm)
      exact ⟨u, v, he, O.same _ _ _ hsn h1, O.same _ _ _ h2 hsn⟩
  rcases h with ⟨rfl, h⟩ | ⟨n, rfl, h1, h2⟩
  · have : avB mv gs = false := by
      rw [← Bool.not_eq_true, avB_iff]
      intro hp
      obtain ⟨n, hn, hg⟩ := key.mp hp
      exact h n hn hg
    rw [this]
    rfl
  · rw [avB_iff.mpr (key.mpr ⟨n, h1, h2⟩)]
    rfl
section
variable {K : PySem.W.Frag} {ro : Ro} {ka k1 : Cells} {te : TE} {P : W → Cells → Prop} {bb : Bool}
end
end DL

/-! FW: an own object as a test (own work). -/
namespace DL
open PySem L2 PySem.Spec PyProof.Rows PySem.W
section
variable {X : Cx} {k : Nat} {C f : Addr} {ps : List Str} {E : XK} {Ct' : Ct} {e : Expr} {te : TE}
end
end DL

/-! FX: comprehensions over enumerated sequences of one kind; rows of numbers compared (own work). -/
namespace DL
open PySem L2 PySem.Spec PyProof.Rows PySem.W
section
variable {K : PySem.W.Frag} {ro : Ro} {ka k1 k2 k3 : Cells} {te tf : TE} {tt : TT} {j l : Nat} {x y w : W}
end
section
variable {X : Cx}
end
section
variable {K : PySem.W.Frag} {ro : Ro} {ka k1 k2 : Cells} {te tf : TE} {y : W}
end
section
variable {K : PySem.W.Frag} {ro : Ro} {ka k1 k2 : Cells} {te tf : TE} {y w : W}
end
/-! ### what is told of a locked dict's keys; a dict within a dict -/
section
variable {K : PySem.W.Frag} {ro : Ro} {ka : Cells} {te tg : TE} {tt : TT} {j : Nat} {vs : List Nat}
end
section
variable {K : PySem.W.Frag} {B F0 : Hp} {ro : Ro} {ka : Cells} {ta : List (V × W)} {td ty tv : TE} {De : Ends} {a : Addr} {wd : World} {ks : List NestedKey} {P : W → Cells → Prop}
end
section
variable {K : PySem.W.Frag} {ro : Ro} {ka k1 : Cells} {te : TE} {tt : TT} {j l : Nat} {vs : List Nat}
end
end DL

/-! FY: own errors with three fields (own work). -/
namespace DL
open PySem L2 PySem.Spec PyProof.Rows PySem.W
/-- __init__(self, x, y, z): self.f = x; self.g = y; self.h = z -/
def spI3 (K : PySem.W.Frag) (C : Addr) (f1 f2 f3 : Str) : Sp := fun vs H Q _ => ∃ a y1 y2 y3, vs = [.ref a, y1, y2, y3] ∧ OexC K C ∧ findIn K (.ref C) f1 = some none ∧ findIn K (.ref C) f2 = some none ∧ findIn K (.ref C) f3 = some none ∧ H a = some (exo a C none) ∧
  ∀ d, H d = none → d ≠ a → Q .non (upd (upd (upd (upd H d (exd d [(f1, y1)])) a (exo a C (some d))) d (exd d [(f2, y2), (f1, y1)])) d (exd d [(f3, y3), (f2, y2), (f1, y1)]))
section
variable {K : PySem.W.Frag} {B F F0 : Hp} {ro : Ro} {ka k1 : Cells} {ta : List (V × W)} {sg : L2.St} {H H' : Hp} {tr : TA} {C : Addr} {f1 f2 f3 : Str} {d1 d2 d3 : D} {De : Ends}
end
/-- an own error with three fields -/
structure X3 (P : Program) (w : World) (K : PySem.W.Frag) (mg : Str → Option Value) (base : Heap) (C : Addr) (f1 f2 f3 : Str) : Prop where
  xc : Xc K C
  n1 : findIn K (.ref C) f1 = some none
  n2 : findIn K (.ref C) f2 = some none
  n3 : findIn K (.ref C) f3 = some none
  ex : ∃ fI fd x y z, findIn K (.ref C) "__init__" = some (some (.ref fI)) ∧ typeIn K (.ref fI) = some (.type "function") ∧ FnOk P w K mg base (L2.CX P w) 1 fI fd ["self", x, y, z] (spI3 K C f1 f2 f3) ∧ Binds K fd ["self", x, y, z] []
namespace X3
variable {P : Program} {w : World} {K : PySem.W.Frag} {mg : Str → Option Value} {base : Heap} {C : Addr} {f1 f2 f3 : Str}
noncomputable def fI (Z : X3 P w K mg base C f1 f2 f3) : Addr := Classical.choose Z.ex
noncomputable def fd (Z : X3 P w K mg base C f1 f2 f3) : FuncData := Classical.choose (Classical.choose_spec Z.ex)
noncomputable def px (Z : X3 P w K mg base C f1 f2 f3) : Str := Classical.choose (Classical.choose_spec (Classical.choose_spec Z.ex))
noncomputable def py (Z : X3 P w K mg base C f1 f2 f3) : Str := Classical.choose (Classical.choose_spec (Classical.choose_spec (Classical.choose_spec Z.ex)))
noncomputable def pz (Z : X3 P w K mg base C f1 f2 f3) : Str := Classical.choose (Classical.choose_spec (Classical.choose_spec (Classical.choose_spec (Classical.choose_spec Z.ex))))
theorem all (Z : X3 P w K mg base C f1 f2 f3) : findIn K (.ref C) "__init__" = some (some (.ref Z.fI)) ∧ typeIn K (.ref Z.fI) = some (.type "function") ∧ FnOk P w K mg base (L2.CX P w) 1 Z.fI Z.fd ["self", Z.px, Z.py, Z.pz] (spI3 K C f1 f2 f3) ∧ Binds K Z.fd ["self", Z.px, Z.py, Z.pz] [] :=
  Classical.choose_spec (Classical.choose_spec (Classical.choose_spec (Classical.choose_spec (Classical.choose_spec Z.ex))))
end X3
end DL

/-! FZ: statements that are never reached (own work). -/
namespace DL
open PySem L2 PySem.Spec PyProof.Rows PySem.W
end DL

/-! GA: d.setdefault(text, []), d.clear(), cells behind tuples (own work). -/
namespace DL
open PySem L2 PySem.W PyProof.Rows
section
variable {K : PySem.W.Frag} {B F F0 H H' : Hp} {ro ro' : Ro} {ka k1 k2 kr kt : Cells} {ta : List (V × W)} {sg : L2.St} {te td ty tx : TE} {a : Addr} {De : Ends} {u : TS}
/-! ### what stands in a slot, its cells told as what they stand for -/
/-- d, with the cells kt, is the data e -/
def FzT (K : PySem.W.Frag) (kt : Cells) (d e : D) : Prop := ∀ F H v, Nz F → Thw K F H kt → Rp K F d v → Rp K (thF F H kt) e v
theorem FzT.same (d : D) : FzT K kt d d := fun F H v nz t h => Rp.mono (thF_sub t.no).exz nz _ _ h
theorem FzT.adr {d : D} (h : FrzD K kt a d) : FzT K kt (.adr a) d := fun F H v nz t e => by
  obtain rfl : v = .ref a := e
  exact h F H nz t
theorem FzT.tup {ds es : List D} (h : FzL K kt ds es) : FzT K kt (.tup ds) (.tup es) := fun F H v nz t ⟨b, xs, e1, h1, h2⟩ => ⟨b, xs, e1, h1.elim (fun q => .inl (q.elim (fun q => .inl (thF_sub t.no _ _ q)) fun ⟨z, q⟩ => .inr ⟨z, thF_sub t.no _ _ q⟩)) .inr, h.rp nz t h2⟩
end
end DL
namespace DL
open PySem L2 PySem.Spec PyProof.Rows PySem.W
end DL

/-! GB: generators that raise ahead of their first yield (own work). -/
namespace DL
open PySem L2 PySem.Spec PyProof.Rows PySem.W
/-- how a generator ends that gives nothing: by its contract, which knows no return -/
def spGX (K : PySem.W.Frag) (C : Ct) : SpG := fun vs H _ E => spC K C vs H (fun _ _ => False) E
def GFx (P : Program) (w : World) (K : PySem.W.Frag) (mg : Str → Option Value) (base : Heap) (k : Nat) (f : Addr) (ps : List Str) (C : Ct) : Prop := ∃ fd, GFn P w K mg base k f fd ps (spGX K C) ∧ L2.Binds K fd ps []
noncomputable def GFx.fd {P : Program} {w : World} {K : PySem.W.Frag} {mg : Str → Option Value} {base : Heap} {f : Addr} {ps : List Str} {k : Nat} {C : Ct} (F : GFx P w K mg base k f ps C) : FuncData := Classical.choose F
theorem GFx.ok {P : Program} {w : World} {K : PySem.W.Frag} {mg : Str → Option Value} {base : Heap} {f : Addr} {ps : List Str} {k : Nat} {C : Ct} (F : GFx P w K mg base k f ps C) : GFn P w K mg base k f F.fd ps (spGX K C) := (Classical.choose_spec F).1
theorem GFx.bn {P : Program} {w : World} {K : PySem.W.Frag} {mg : Str → Option Value} {base : Heap} {f : Addr} {ps : List Str} {k : Nat} {C : Ct} (F : GFx P w K mg base k f ps C) : L2.Binds K F.fd ps [] := (Classical.choose_spec F).2
section
variable {P : Program} {w : World} {K : PySem.W.Frag} {mg : Str → Option Value} {base : Heap} {f : Addr} {fd : FuncData} {x qual : Str} {params : Arguments} {st : Stmt} {rest body : List Stmt} {scope : Scope} {ps N : List Str} {k j : Nat} {C : Ct}
end
section
variable {K : PySem.W.Frag} {ro : Ro} {ka k2 : Cells} {tr : TA} {Cc : Ct} {E : XK} {C1 : Addr} {gs : List (Str × D)}
end
section
variable {K : PySem.W.Frag} {ro : Ro} {ka k1 k2 k3 kr : Cells} {te tf : TE} {tr : TA} {Cc : Ct} {E : XK} {C C1 : Addr} {gs : List (Str × D)} {w : W} {ws : List W}
/-- the second argument raises -/
theorem evx_arg2 {sp : Sp} {E' : XK} {dvs : List V} (h1 : EvD K te ro ka w k1) (h2 : EvX K tf ro k1 E C1 gs k2) : EvX K (tCall sp dvs E' (tCons te (tCons tf tr))) ro ka E C1 gs k2 := fun B F0 ta sg H Q e q =>
  h1 B F0 ta sg H _ e fun v H1 e1 => h2 B F0 _ sg H1 _ e1 fun dx H2 e2 => q dx H2 e2.pop
end
end DL

/-! GC: targets that are fields, items of own objects set by their class (own work). -/
namespace DL
open PySem L2 PySem.W
section
variable {X : Cx} {k : Nat} {C f : Addr} {ps : List Str} {E : XK} {Ct' : Ct} {pos : Pos} {o : Expr} {to : TE} {x : Str}
end
section
variable {K : PySem.W.Frag} {B F0 : Hp} {ro : Ro} {ka k1 k2 k3 kr k4 : Cells} {ta : List (V × W)} {te tf tg : TE} {tr : TA} {w x y z : W} {a C : Addr} {De : Ends} {u : TS} {fs : List (Str × D)} {d d1 d2 : D} {i j : Nat} {f : Str}
end
end DL

/-! GD: x op= y of an own class within a try whose clauses read slots (own work). -/
namespace DL
open PySem L2 PySem.W
section
variable {X : Cx} {k : Nat} {C f : Addr} {ps : List Str} {E : L2.St → XK} {Cc : Ct} {e : Expr} {pos pos' : Pos} {te : TE}
end
section
variable {K : PySem.W.Frag} {B F0 : Hp} {ro : Ro} {ka k1 k2 k3 kr : Cells} {ta : List (V × W)} {te : TE} {C C1 : Addr} {fs gs : List (Str × D)} {De De' : Ends} {l : List Cla} {oi : Option Nat} {ts : Addr → Value → Option Addr → TS} {Wout : WX} {x y : W} {b : Bool} {Cc : Ct} {i : Nat} {E : L2.St → XK}
theorem EvX.less {E : XK} (h : EvX K te ro ka E C1 gs k2) (s : k3.Sublist k2) : EvX K te ro ka E C1 gs k3 := fun B F0 ta sg H Q e q => h B F0 ta sg H Q e fun dx H' e' => q dx H' (e'.less (s.append (List.Sublist.refl _)))
theorem EvX.pm {E : XK} (h : EvX K te ro k1 E C1 gs k2) (s1 : k1.Perm ka) (s2 : k2.Perm k3) : EvX K te ro ka E C1 gs k3 := fun B F0 ta sg H Q e q => h B F0 ta sg H Q (e.perm s1) fun dx H' e' => q dx H' (e'.perm (s2.symm.append_right _))
end
section
variable {K : PySem.W.Frag} {ro ro' : Ro} {t : TGs}
end
end DL

/-! GE: for x, y in zip(t, l), t a tuple, l a list: the library's GoesN.zip2 over its Draws, told for the hand layer (own work). -/
namespace DL
open PySem L2 PySem.W PyProof.Rows
/-- what stands at turn i -/
structure ZpM (a b z TI TO i1 i2 : Addr) (i : Nat) (h : Heap) : Prop where
  zp : IsZip h z TI TO .none
  ti : IsTupOf2 h TI (.ref i1) (.ref i2)
  to : ∃ x y, IsTupOf2 h TO x y
  t1 : h.IsTupleIter i1 a i
  l2 : h.IsListIter i2 b i
  sep : ZipSep2 z TI TO i1 i2 [i1, a] [i2, b]
namespace ZpM
variable {a b z TI TO i1 i2 : Addr} {i : Nat} {h : Heap}
theorem cells (q : ZpM a b z TI TO i1 i2 i h) : ∀ c ∈ [z, TI, TO, i1, i2], ∃ o, h.get? c = some o ∧ ∀ v, o.data ≠ .cell v := by
  obtain ⟨e0, e1, ⟨_, _, e2⟩, ⟨o3, e3, _, d3⟩, ⟨o4, e4, _, d4⟩, _⟩ := q
  simp only [List.forall_mem_cons, List.not_mem_nil, false_imp_iff, implies_true, and_true]
  exact ⟨⟨_, e0, fun _ c => nomatch c⟩, ⟨_, e1, fun _ c => nomatch c⟩, ⟨_, e2, fun _ c => nomatch c⟩, ⟨o3, e3, fun _ c => nomatch d3.symm.trans c⟩, o4, e4, fun _ c => nomatch d4.symm.trans c⟩
theorem le (q : ZpM a b z TI TO i1 i2 i h) {c T : Addr} (hc : c ∈ [z, TI, TO, i1, i2]) (hT : h.objs.size ≤ T) : c ≠ T := fun e =>
  let ⟨_, y, _⟩ := q.cells c hc
  Nat.lt_irrefl _ (Nat.lt_of_lt_of_le (e ▸ Heap.lt_size y) hT)
end ZpM
end DL
namespace DL
open PySem L2 PySem.W
section
variable {K : PySem.W.Frag} {ro : Ro} {ka k1 k2 : Cells} {te tf : TE}
end
end DL

/-! GG: two dicts with tuples as keys compared, where every value is True (own work). -/
namespace DL
open PySem L2 PySem.W PyProof.Rows
section
variable {prog : Program} {w : World} {A : Around} {E : Value → Shared → Prop} {s : Shared}
variable {K : Type} [DecidableEq K] {knd : HeapKind prog w K}
end
theorem SeesN.true {xs : List (NestedKey × Addr × V)} {qs : List (NestedKey × Addr × Value)} (r : SeesN xs qs) (t : ∀ p ∈ xs, p.2.2 = .bl true) : ∀ q ∈ qs, q.2.2 = .bool true := by
  unfold SeesN at r
  induction r with
  | nil => exact fun _ h => nomatch h
  | @cons p q ps qs h _ ih =>
    intro x hx
    rcases List.mem_cons.mp hx with rfl | hx
    · have h3 := h.2.2
      rw [t p List.mem_cons_self] at h3
      exact h3
    · exact ih (fun p hp => t p (List.mem_cons_of_mem _ hp)) x hx
theorem SeesN.all {xs ys : List (NestedKey × Addr × V)} {qs rs : List (NestedKey × Addr × Value)} (r : SeesN xs qs) (t : SeesN ys rs) : (qs.all fun q => (atKey rs q.1).isSome) = xs.all fun p => hasT (rowN ys) p.1 := by
  unfold SeesN at r
  induction r with
  | nil => rfl
  | @cons p q ps qs h _ ih =>
    rw [List.all_cons, List.all_cons, ih, ← h.1]
    rcases t.has p.1 with ⟨_, h1, h2⟩ | ⟨_, _, _, h1, h2, _⟩ <;> rw [h1, h2] <;> rfl
section
variable {K : PySem.W.Frag} {wd : World} {ro : Ro} {ka k1 k2 : Cells} {te tf : TE} {x y : W} {ds es : List (NestedKey × D)} {b1 b2 : Bool}
end
end DL

/-! GH: comprehensions over rows of three (own work). -/
namespace DL
open PySem L2 PySem.W
section
variable {K : PySem.W.Frag} {B F F0 : Hp} {ro : Ro} {ka k1 : Cells} {ta : List (V × W)} {sg : L2.St} {H : Hp} {te : TE} {tt : TT} {d1 d2 d3 : D} {j l o : Nat}
end
section
variable {K : PySem.W.Frag} {B F0 : Hp} {ro : Ro} {ka k1 : Cells} {ta : List (V × W)} {sg : L2.St} {H : Hp} {te : TE} {De : Ends} {u : TS} {P : W → Cells → Prop}
end
end DL

/-! GF: f-strings and join, by data (own work). -/
namespace DL
open PySem L2 PySem.W PyProof.Rows
section
variable {K : PySem.W.Frag} {ro : Ro} {ka k1 k2 : Cells} {te to : TE} {w : W}
theorem rpl_txt {F : Hp} : ∀ {ss : List Str} {xs : List V}, RpL K F (stD ss) xs → xs = ss.map V.str
  | [], _, h => h
  | s :: ss, _, h => by
    obtain ⟨x, ys, rfl, hx, hy⟩ := h
    rw [show x = V.str s from hx, rpl_txt hy]
    rfl
/-- one hole of an f-string: a text -/
theorem ev_fmt {s : Str} (h : EvD K te ro ka (.val (.str s)) k1) (hs : s.length ≤ 100000) : EvD K (tFmt te) ro ka (.val (.str s)) k1 := fun B F0 ta sg H Q e q => h B F0 ta sg H _ e fun v H1 e1 => by
  have hv := e1.tm_str (v := v) (i := s) List.mem_cons_self
  subst hv
  exact .inl ⟨s, rfl, Nat.le_trans hs (by decide : 100000 ≤ sizeLine), q _ _ e1⟩
/-- the parts of an f-string: the texts that they give -/
inductive EvJ (K : PySem.W.Frag) (ro : Ro) : List TE → Cells → List Str → Cells → Prop where
  | nil {ka : Cells} : EvJ K ro [] ka [] ka
  | cons {t : TE} {ts : List TE} {ka k1 k : Cells} {s : Str} {r : List Str} (h : EvD K t ro ka (.val (.str s)) k1) (hr : EvJ K ro ts k1 r k) : EvJ K ro (t :: ts) ka (s :: r) k
def glue : Str → List Str → Str
  | acc, [] => acc
  | acc, s :: r => glue (acc ++ s) r
theorem glue_len : ∀ (ss : List Str) (acc : Str), (glue acc ss).length = acc.length + (ss.map (·.length)).sum
  | [], acc => rfl
  | s :: r, acc => by
    show (glue (acc ++ s) r).length = _
    rw [glue_len r, PySem.Str.length_append, List.map_cons, List.sum_cons]
    omega
theorem evj_run {ts : List TE} {ss : List Str} {k : Cells} (j : EvJ K ro ts ka ss k) : ∀ {B F0 : Hp} {ta : List (V × W)} {sg : L2.St} {H : Hp} {acc : Str} {Q : Str → Hp → Prop}, (glue acc ss).length ≤ 100000 → En K B F0 ro ka ta sg H → (∀ H', En K B F0 ro k ta sg H' → Q (glue acc ss) H') → tJs ts acc sg H Q := by
  induction j with
  | nil => exact fun _ e q => q _ e
  | @cons t ts ka k1 k s r h hr ih =>
    intro B F0 ta sg H acc Q hz e q
    refine h B F0 ta sg H _ e fun v H1 e1 => ?_
    have hv := e1.tm_str (v := v) (i := s) List.mem_cons_self
    subst hv
    have hl := glue_len (s :: r) acc
    rw [List.map_cons, List.sum_cons] at hl
    refine ⟨s, rfl, ?_, ih (by exact hz) (e1.held fun p hp => List.mem_cons_of_mem _ hp) q⟩
    rw [PySem.Str.length_append]
    exact Nat.le_trans (show acc.length + s.length ≤ 100000 by omega) (by decide : 100000 ≤ sizeLine)
/-- an f-string's reading -/
abbrev tFs (ts : List TE) : TE := fun σ H Q => tJs ts Str.empty σ H fun out H1 => Q (.str out) H1
/-- f'..' -/
theorem ev_fstr {ts : List TE} {ss : List Str} (j : EvJ K ro ts ka ss k1) (hz : (glue Str.empty ss).length ≤ 100000) : EvD K (tFs ts) ro ka (.val (.str (glue Str.empty ss))) k1 := fun B F0 ta sg H Q e q =>
  evj_run j hz e fun H' e' => q _ _ (e'.push_imm fun _ => rfl)
abbrev rJoin (K : PySem.W.Frag) : V → List V → Hp → VK → Prop := fun x xs H Q => ∃ a p, ∃ ys : List Str, x = .str a ∧ xs = [.ref p] ∧ (SqL K H p (ys.map V.str) ∨ SqT K H p (ys.map V.str)) ∧ (ys.map (·.length)).sum + ys.length * a.length ≤ 16777216 ∧ Q (.str (Txt.join a ys)) H
/-- a.join(texts) -/
theorem ev_join {a : Str} {ss : List Str} {t : Bool} (h : EvD K to ro ka (.val (.str a)) k1) (h2 : EvD K te ro k1 w k2) (l : Lk k2 w t (stD ss) false) (hz : (ss.map (·.length)).sum + ss.length * a.length ≤ 100000) :
    EvD K (tM1 (rJoin K) to te) ro ka (.val (.str (Txt.join a ss))) k2 := fun B F0 ta sg H Q e q =>
  h B F0 ta sg H _ e fun v H1 e1 => by
    have hv := e1.tm_str (v := v) (i := a) List.mem_cons_self
    subst hv
    refine ⟨⟨a, rfl⟩, h2 B F0 _ sg H1 _ e1 fun u H2 e2 => ?_⟩
    obtain ⟨F, g, ef⟩ := id e2
    obtain ⟨p, xs, rfl, s1, r1⟩ := l.get ef (ef.tm _ List.mem_cons_self)
    have e := rpl_txt r1
    subst e
    refine ⟨a, p, ss, rfl, rfl, ?_, by omega, q _ _ ((e2.held fun z hz => List.mem_cons_of_mem _ (List.mem_cons_of_mem _ hz)).push_imm fun _ => rfl)⟩
    cases t with
    | true => exact .inr s1
    | false => exact .inl (.inl s1)
end
end DL

/-! GI: a for loop within a generator (own work). -/
namespace DL
open PySem L2 PySem.Spec PyProof.Rows PySem.W GenW
section
variable {prog : Program} {w : World} {A : Around} {R : GenEnd} {Y : Protocol} {n : Nat} {s₀ : Shared} {fs : List Frame} {s : Shared} {env : Env}
end
section
variable {X : Cx}
end

/-! ### the contract of a generator: what it hands out, as data -/
def spGY (K : PySem.W.Frag) (C : Ct) : SpG := fun vs H cont E => ∃ B F ws ka out, C ws ka out ∧ vs.length = ws.length ∧ En K B F [] ka (vs.zip ws) [] H ∧
  (∀ ds k ys H', out (.ret (.lst ds)) k → ys.length = ds.length → En K B F [] k (ys.zip (ds.map W.val)) [] H' → cont ys H') ∧ RxOk K B F out E
def GFy (P : Program) (w : World) (K : PySem.W.Frag) (mg : Str → Option Value) (base : Heap) (k : Nat) (f : Addr) (ps : List Str) (C : Ct) : Prop := ∃ fd, GFn P w K mg base k f fd ps (spGY K C) ∧ L2.Binds K fd ps []
noncomputable def GFy.fd {P : Program} {w : World} {K : PySem.W.Frag} {mg : Str → Option Value} {base : Heap} {f : Addr} {ps : List Str} {k : Nat} {C : Ct} (F : GFy P w K mg base k f ps C) : FuncData := Classical.choose F
theorem GFy.ok {P : Program} {w : World} {K : PySem.W.Frag} {mg : Str → Option Value} {base : Heap} {f : Addr} {ps : List Str} {k : Nat} {C : Ct} (F : GFy P w K mg base k f ps C) : GFn P w K mg base k f F.fd ps (spGY K C) := (Classical.choose_spec F).1
theorem GFy.bn {P : Program} {w : World} {K : PySem.W.Frag} {mg : Str → Option Value} {base : Heap} {f : Addr} {ps : List Str} {k : Nat} {C : Ct} (F : GFy P w K mg base k f ps C) : L2.Binds K F.fd ps [] := (Classical.choose_spec F).2
section
variable {K : PySem.W.Frag} {B F0 : Hp} {ro : Ro} {k k1 : Cells} {wi : TI} {ds : List D} {j : Nat} {cont : List V → Hp → Prop}
end
section
variable {P : Program} {w : World} {K : PySem.W.Frag} {mg : Str → Option Value} {base : Heap} {f : Addr} {x qual : Str} {params : Arguments} {st : Stmt} {body : List Stmt} {scope : Scope} {ps N : List Str} {k : Nat} {C : Ct} {tg iter e : Expr} {yp pos pos2 : Pos}
end
section
variable {K : PySem.W.Frag} {ro : Ro} {ka k1 k2 kr : Cells} {tr : TA} {Cc : Ct} {E E' : XK} {C1 : Addr} {gs : List (Str × D)} {ws : List W} {ds : List D}
end
end DL

/-! GJ: calls within try of whose end a word tells, errors too (own work). -/
namespace DL
open PySem L2 PySem.Spec PyProof.Rows PySem.W
/-- te ends with a value, an error with fields, or one without: words tell of each -/
def EvXR (K : PySem.W.Frag) (te : TE) (ro : Ro) (ka : Cells) (E : XK) (P : W → Cells → Prop) (PX : Addr → List (Str × D) → Cells → Prop) (P0 : Addr → Cells → Prop) : Prop := ∀ B F0 ta sg H (Q : VK), En K B F0 ro ka ta sg H →
  (∀ w k v H', P w k → En K B F0 ro k ((v, w) :: ta) sg H' → Q v H') → (∀ C gs k dx H', PX C gs k → En K B F0 ro (k ++ [(dx, .xd gs)]) ta sg H' → E (.ref C) (some dx) H') → (∀ C k H', P0 C k → En K B F0 ro k ta sg H' → E (.ref C) none H') → te sg H Q
section
variable {K : PySem.W.Frag} {B F0 : Hp} {ro : Ro} {ka k1 k2 k3 kr : Cells} {ta : List (V × W)} {sg : L2.St} {H : Hp} {te tf : TE} {tr : TA} {C C1 : Addr} {E : XK} {De De' : Ends} {l : List Cla} {Wout : WX} {P P2 : W → Cells → Prop} {PX : Addr → List (Str × D) → Cells → Prop} {P0 : Addr → Cells → Prop}
/-- .. what comes back, frozen -/
theorem EvXR.imp (h : EvXR K te ro ka E P PX P0) (i : ∀ w k, P w k → P2 w k) : EvXR K te ro ka E P2 PX P0 := fun B F0 ta sg H Q e q qx q0 => h B F0 ta sg H Q e (fun w k v H' p => q w k v H' (i w k p)) qx q0
end
end DL

/-! GK: defs that are called while an exception is handled, of which nothing is known but its object; they raise nothing (own work). -/
namespace DL
open PySem L2 PySem.Spec PyProof.Rows PySem.W
/-- nothing is raised -/
abbrev noX : XK := fun _ _ _ => False
/-- a def that ends with a value, whatever exception is handled; p: an object that stands beside what is tracked -/
structure FnM (P : Program) (w : World) (K : PySem.W.Frag) (mg : Str → Option Value) (base : Heap) (k : Nat) (f : Addr) (ps : List Str) (C : Ct) : Prop where
  len : ∀ ws ka out, C ws ka out → ws.length = ps.length
  run : ∀ (A : Around) (outer : List Env) (s : Shared) (H : Hp) (us : List Value) (vs : List V) (Q : VK) (p : Addr × Obj), L2H.RoomH k A → L2H.PinOk outer H s p → Env0 P w K mg base A outer s H → Vals vs us → spC K C vs H Q noX →
    codeAny (model P w) A (.call (.ref f) ⟨us, []⟩) (fun r s' => ∃ u, r = .ok (.ret u) ∧ CE outer P w H s Q u s') s
section
variable {P : Program} {w : World} {K : PySem.W.Frag} {mg : Str → Option Value} {base : Heap} {f : Addr} {fd : FuncData} {x qual : Str} {params : Arguments} {body : List Stmt} {scope : Scope} {ps N : List Str} {k j : Nat} {C : Ct}
theorem FnM.up (F : FnM P w K mg base j f ps C) (h : j ≤ k) : FnM P w K mg base k f ps C := ⟨F.len, fun A outer s H us vs Q p hr => F.run A outer s H us vs Q p (hr.mono h)⟩
end
end DL

/-! GL: errors that leave x[i] = v, a method on cells, and the arguments of C(..) (own work). -/
namespace DL
open PySem L2 PySem.W
section
variable {K : PySem.W.Frag} {B F0 : Hp} {ro : Ro} {ka k1 k2 k3 k4 kr : Cells} {ta : List (V × W)} {te tf tg : TE} {tr : TA} {De : Ends} {u : TS} {C C1 : Addr} {fs gs : List (Str × D)} {out : Oc} {E E' : XK} {x y z w : W} {b : Bool} {Cc : Ct} {ws : List W}
end
end DL

/-! GM: sorted(set(texts)) (own work). -/
namespace DL
open PySem L2 PySem.W PyProof.Rows PySem.Froz

def strV : Value → Str
  | .str k _ => k
  | _ => Str.empty
/-- the texts that lie there -/
def txs (D : SD) : List Str := D.1.toList.map fun e => strV e.2
/-- the set of the texts l at a -/
def SxAt (P : Program) (w : World) (h : Heap) (a : Addr) (l : List Str) : Prop := ∃ D : SD, h.get? a = some (sObj "set" D) ∧ TxOk P w D l ∧ (txs D).Perm l ∧ Ris D.2.2.place.toList ∧ (w.params.followText "set-order" = true ∨ D.2.2.led = true)
theorem SxAt.keep {P : Program} {w : World} {h h' : Heap} {a : Addr} {l : List Str} (x : SxAt P w h a l) (k : ∀ o, h.get? a = some o → h'.get? a = some o) : SxAt P w h' a l :=
  let ⟨D, ho, r⟩ := x
  ⟨D, k _ ho, r⟩
theorem SxAt.new {P : Program} {w : World} {h : Heap} {a : Addr} (ho : h.get? a = some { cls := .type "set", dict := none, data := .set #[] 0 (.fresh 0 0 (!w.params.followText "set-order")) }) : SxAt P w h a [] :=
  ⟨(#[], 0, .fresh 0 0 (!w.params.followText "set-order")), ho, TxOk.nil rfl, List.Perm.refl _, List.Pairwise.nil, by
    show _ ∨ (!w.params.followText "set-order") = true
    cases w.params.followText "set-order" <;> simp⟩
section
variable {P : Program} {w : World} {A : Around} {E : Value → Shared → Prop} {s : Shared}
end

section
variable {X : Cx} {e : Expr} {te : TE} {p p2 q pos : Pos}
end
section
variable {K : PySem.W.Frag} {ro : Ro} {ka k1 : Cells} {te : TE} {w : W}
end
end DL

/-! GN: text * number, text in text (own work). -/
namespace DL
open PySem L2 PySem.W PyProof.Rows

/-- n times a text -/
def repS (n : Nat) (s : Str) : Str := ⟨(List.replicate n s.cps.toList).flatten.toArray⟩
theorem flat_cps : ∀ (n : Nat) (x acc : Array Nat), (List.replicate n x).foldl (· ++ ·) acc = acc ++ (List.replicate n x.toList).flatten.toArray
  | 0, x, acc => by simp
  | n + 1, x, acc => by
    rw [List.replicate_succ, List.foldl_cons, flat_cps n x, List.replicate_succ, List.flatten_cons]
    apply Array.toList_inj.mp
    simp
theorem repS_eq (s : Str) (n : Nat) (h : 1 ≤ n) : Txt.mul s n = repS n s := by
  unfold Txt.mul
  rw [if_neg (by omega)]
  by_cases c : ((n : Int) == 1 || s.length == 0) = true
  · rw [if_pos c]
    apply str_ext
    unfold repS
    rw [Bool.or_eq_true, beq_iff_eq, beq_iff_eq] at c
    rcases c with c | c
    · rw [show n = 1 by omega]
      simp
    · have e : s.cps.toList = [] := List.eq_nil_of_length_eq_zero (by rw [Array.length_toList]; exact c)
      rw [e]
      simp
  · rw [if_neg c]
    apply str_ext
    show ((List.replicate (n : Int).toNat s.cps).foldl (· ++ ·) #[]).toList = _
    rw [flat_cps, Int.toNat_natCast]
    simp [repS]
abbrev rMulT : R2 := fun x y H Q => ∃ (s : Str) (n : Nat), x = .str s ∧ y = .int n ∧ 1 ≤ n ∧ n ≤ 4000 ∧ s.length ≤ 4000 ∧ Q (.str (repS n s)) H
theorem op_mulS {X : Cx} : OpR X (binaryOp .Mult) rMulT := fun pins st sg H x y v u Q I rx ry h => by
  obtain ⟨s, n, rfl, rfl, h1, h2, h3, q⟩ := h
  obtain ⟨t, rfl⟩ := rx
  obtain ⟨t', rfl⟩ := ry
  refine SB.mul (mulOk_of 4000 4000 h3 (by omega) (by omega) (by decide) (by decide)) fun t2 k => ⟨.str (repS n s), H, I.tok _, ⟨t2, by rw [repS_eq s n h1]⟩, q⟩

section
variable {K : PySem.W.Frag} {ro : Ro} {ka k1 k2 : Cells} {te tf : TE}
theorem ev_mulS {s : Str} {n : Nat} (h : EvD K te ro ka (.val (.str s)) k1) (h2 : EvD K tf ro k1 (.val (.int n)) k2) (h1 : 1 ≤ n) (hn : n ≤ 4000) (hs : s.length ≤ 4000) : EvD K (tOp rMulT te tf) ro ka (.val (.str (repS n s))) k2 := ev_op h h2 fun B F0 ro ta sg H u v Q e hu hv q =>
  ⟨s, n, e.tm_str hu, e.tm_int hv, h1, hn, hs, q _ _ (e.push_imm fun _ => rfl)⟩
variable {E E' : XK} {C C1 : Addr} {gs : List (Str × D)} {w : W} {tr : TA} {sp : Sp}
theorem evx_snd (h1 : EvD K te ro ka w k1) (h2 : EvX K tf ro k1 E C1 gs k2) : EvX K (tTup (tCons te (tCons tf tNil))) ro ka E C1 gs k2 := fun B F0 ta sg H Q e q =>
  h1 B F0 ta sg H _ e fun u H1 e1 => h2 B F0 _ sg H1 _ e1 fun dx H2 e2 => q dx H2 (e2.held fun p hp => List.mem_cons_of_mem _ hp)
end
end DL

/-! GO: ring texts and their windows (own work). -/
namespace DL
open PySem L2 PySem.W PyProof.Rows
theorem cpsApp (a b : Str) : (a ++ b).cps.toList = a.cps.toList ++ b.cps.toList := by
  show (a.cps ++ b.cps).toList = _
  simp
/-! ### sorted sets -/
theorem inOrd_eq {xs ys : List Str} (h : ∀ x, x ∈ xs ↔ x ∈ ys) : inOrd xs = inOrd ys :=
  srt_eq ((List.perm_ext_iff_of_nodup (dedS_nd xs) (dedS_nd ys)).mpr fun x => mem_dedS.trans ((h x).trans mem_dedS.symm))
theorem inOrd_len (xs : List Str) : (inOrd xs).length ≤ xs.length := by
  unfold inOrd
  rw [srt_len]
  exact dedS_len xs
end DL

/-! GP: returns within try whose clause reads slots; join of what a word tells (own work). -/
namespace DL
open PySem L2 PySem.W PyProof.Rows
section
variable {K : PySem.W.Frag} {B F0 : Hp} {ro : Ro} {ka k1 k2 k3 kr : Cells} {ta : List (V × W)} {sg : L2.St} {H : Hp} {te tf tg to : TE} {tr : TA} {De De' : Ends} {w x y : W}
/-- a.join(xs), xs told by a word -/
theorem evr_joinR {a : Str} {P : W → Cells → Prop} (h : EvD K to ro ka (.val (.str a)) k1) (h2 : EvR K te ro k1 P) (hP : ∀ w k, P w k → ∃ ss, w = .val (.lst (stD ss)) ∧ (ss.map (·.length)).sum + ss.length * a.length ≤ 100000) :
    EvR K (tM1 (rJoin K) to te) ro ka (fun w' k => ∃ ss, P (.val (.lst (stD ss))) k ∧ w' = .val (.str (Txt.join a ss))) := fun B F0 ta sg H Q e q =>
  h B F0 ta sg H _ e fun v H1 e1 => by
    have hv := e1.tm_str (v := v) (i := a) List.mem_cons_self
    subst hv
    refine ⟨⟨a, rfl⟩, h2 B F0 _ sg H1 _ e1 fun w k u H2 pw e2 => ?_⟩
    obtain ⟨ss, rfl, hz⟩ := hP w k pw
    obtain ⟨F, g, ef⟩ := id e2
    obtain ⟨p, xs, rfl, s1, r1⟩ := Lk.vl.get ef (ef.tm _ List.mem_cons_self)
    have e := rpl_txt r1
    subst e
    exact ⟨a, p, ss, rfl, rfl, .inl (.inl s1), by omega, q _ _ _ _ ⟨ss, pw, rfl⟩ ((e2.held fun z hz => List.mem_cons_of_mem _ (List.mem_cons_of_mem _ hz)).push_imm fun _ => rfl)⟩
end
end DL

/-! GQ: a dict of the module asked, a class held by a local name, classmethods (own work). -/
namespace DL
open PySem L2 PySem.W PyProof.Rows
section
variable {X : Cx} {CX : CXT} {k i : Nat} {C f : Addr} {fd : FuncData} {ps : List Str} {sp : Sp} {dvs : List V} {ds : List Value} {E : XK} {x : Str} {p pos : Pos} {e : Expr} {es : List Expr} {t : TA} {kvs : List (Str × Str)} {d : Addr}
/-- text not in the dict of the module at d -/
def rNiTab (d : Addr) (kvs : List (Str × Str)) : R2 := fun x y H Q => ∃ z, x = .str z ∧ y = .ref d ∧ Q (.bl (!kvs.any fun p => decide (p.1 = z))) H
theorem op_niTab (T : TabS X.K X.w d kvs) : OpR X (compareOp .NotIn) (rNiTab d kvs) := fun pins st sg H x y v u Q I rx ry ⟨z, e1, e2, q⟩ => by
  obtain ⟨es, n, D⟩ := T.kd
  by_cases h : ∃ p ∈ kvs, p.1 = z
  · obtain ⟨p, hp, rfl⟩ := h
    obtain ⟨t, ht⟩ := T.at_ p hp
    refine op_notIn_kd D pins st sg H x y v u Q I rx ry ⟨p.1, _, e1, e2, ht, ?_⟩
    have : (kvs.any fun q => decide (q.1 = p.1)) = true := List.any_eq_true.mpr ⟨p, hp, decide_eq_true rfl⟩
    rw [this] at q
    exact q
  · refine op_notIn_kd D pins st sg H x y v u Q I rx ry ⟨z, none, e1, e2, T.no z fun p hp e => h ⟨p, hp, e⟩, ?_⟩
    have : (kvs.any fun q => decide (q.1 = z)) = false := by
      rw [← Bool.not_eq_true, List.any_eq_true]
      rintro ⟨p, hp, e⟩
      exact h ⟨p, hp, of_decide_eq_true e⟩
    rw [this] at q
    exact q
/-- the text under a text in it -/
def rIxTab (d : Addr) (kvs : List (Str × Str)) : R2 := fun x y H Q => ∃ p ∈ kvs, x = .ref d ∧ y = .str p.1 ∧ Q (.str p.2) H
theorem ix_tab (T : TabS X.K X.w d kvs) : IxR X (rIxTab d kvs) := fun value slice pins st sg H x y v u Q I rx ry h => by
  obtain ⟨p, hp, e1, e2, q⟩ := h
  obtain ⟨es, n, D⟩ := T.kd
  obtain ⟨t, ht⟩ := T.at_ p hp
  exact ix_kdict value slice pins st sg H x y v u Q I rx ry ⟨d, p.1, .str p.2, e1, e2, ⟨es, n, _, D.at_, D.lit, ht, t, rfl⟩, q⟩
/-- C(..), C held by the i-th slot -/
def tMakeL (i : Nat) (C : Addr) (sp : Sp) (dvs : List V) (E : XK) (t : TA) : TE := fun σ H Q => σ[i]? = some (some (.ref C)) ∧ tMake C sp dvs E t σ H Q
theorem pe_makeL (M : Mk X.K C f) (F : FnOk X.prog X.w X.K X.mg X.base CX k f fd ps sp) (hr : Room (k + 1) X.A) (hN : X.N[i]? = some x) (hv : Vis X.env.scope x) (hb : Binds X.K fd ps ds) (hd : Vals dvs ds) (hx : Passes CX X E) (ha : PA X (e :: es) t)
    (hdb : (x == ("__debug__" : Str)) = false := by decide) (hcd : (x == ("__classdict__" : Str)) = false := by decide)
    (he : starEach (e :: es) X.env = (false, eval e X.env) :: starEach es X.env := by rfl) (hpl : (backTo pos (starEach es X.env)).any (·.1) = false := by rfl) : PE X (.Call (.Name x p) (e :: es) [] pos) (tMakeL i C sp dvs E t) := by
  refine ⟨fun pins s σ H Q I h => ?_⟩
  obtain ⟨hs, ht⟩ := h
  refine wpAny_Call_Name_kw (thn ((pe_var (pos := p) hN hv hdb hcd).run pins s σ H (fun v H1 => v = .ref C ∧ H1 = H) I ⟨.ref C, hs, rfl, rfl⟩) fun u s1 ⟨v, H1, I1, r1, q1⟩ => ?_)
  obtain ⟨rfl, rfl⟩ := q1
  cases r1
  refine PySem.W.callWith_K (h₀ := X.base) I.ok.mod.kin M.kp (thn (ha.run pos pins s1 σ _ _ I1 ht) fun us s2 ⟨vs, H2, I2, r, q⟩ => ⟨I2.kIn, ?_⟩) he hpl
  exact run_make M F hr hb hd hx I2 r q
end
section
variable {K : PySem.W.Frag} {B F0 : Hp} {ro : Ro} {ka k1 k2 k3 kr : Cells} {ta : List (V × W)} {sg : L2.St} {H : Hp} {te tf tg to : TE} {tr : TA} {De De' : Ends} {w x y : W} {kvs : List (Str × Str)} {d C : Addr} {E : XK}
theorem ev_niTab {z : Str} (h : EvD K te ro ka (.val (.str z)) k1) : EvD K (tOp (rNiTab d kvs) te (tC (.ref d))) ro ka (.val (.bl (!kvs.any fun p => decide (p.1 = z)))) k1 := ev_op h ev_ref fun B F0 ro ta sg H u v Q e hu hv q => by
  have h1 := e.tm_str hu
  have h2 := e.tm_adr hv
  subst h1 h2
  exact ⟨z, rfl, rfl, q _ _ (e.push_imm fun _ => rfl)⟩
theorem ev_ixTab {p : Str × Str} (hp : p ∈ kvs) (h : EvD K te ro ka (.val (.str p.1)) k1) : EvD K (tOp (rIxTab d kvs) (tC (.ref d)) te) ro ka (.val (.str p.2)) k1 := ev_op ev_ref h fun B F0 ro ta sg H u v Q e hu hv q => by
  have h1 := e.tm_str hv
  have h2 := e.tm_adr hu
  subst h1 h2
  exact ⟨p, hp, rfl, rfl, q _ _ (e.push_imm fun _ => rfl)⟩
/-- C.m(..), m a classmethod: its def called with C ahead -/
abbrev tCM (K : PySem.W.Frag) (C : Addr) (Cc : Ct) (E : XK) (tr : TA) : TE := ClX.tCMeth C (fun vs H Q E => spC K Cc (vs ++ []) H Q E) E (tC (.ref C)) tr
theorem ev_cm {Cc : Ct} (h : EvD K (tCall (spC K Cc) [] E (tCons (tC (.ref C)) tr)) ro ka w k1) : EvD K (tCM K C Cc E tr) ro ka w k1 := fun B F0 ta sg H Q e q => ⟨rfl, h B F0 ta sg H Q e q⟩
theorem evx_cm {Cc : Ct} {E' : XK} {C1 : Addr} {gs : List (Str × D)} (h : EvX K (tCall (spC K Cc) [] E' (tCons (tC (.ref C)) tr)) ro ka E C1 gs k1) : EvX K (tCM K C Cc E' tr) ro ka E C1 gs k1 := fun B F0 ta sg H Q e q => ⟨rfl, h B F0 ta sg H Q e q⟩
end
end DL

/-! GR: written patterns read sign by sign, in plain words (own work). -/
namespace DL
open PySem L2 PySem.W
/-! ### a written pattern: what a reader of it answers -/
/-- a letter or a figure -/
def okC (c : Nat) : Bool := decide (c ∈ letL) || decide (c ∈ digL)
/-- how many signs go on as letters and figures, at most n -/
def runN : Nat → List Nat → Nat
  | 0, _ => 0
  | _ + 1, [] => 0
  | n + 1, c :: r => if okC c then runN n r + 1 else 0
/-- a thing and the place behind it, or the place of what is wrong -/
abbrev Rdg (α : Type) : Type := Except Nat (α × Nat)
/-- .. or: nested too deep for this reader -/
abbrev PR : Type := Option (Rdg Tr)
def rdName (cs : List Nat) (i : Nat) : Rdg Str := match cs[i]? with
  | some c => if c ∈ letL then .ok (⟨((cs.drop i).take (runN 7 (cs.drop (i + 1)) + 1)).toArray⟩, i + (runN 7 (cs.drop (i + 1)) + 1)) else .error i
  | none => .error i
def rdMore (cs : List Nat) : Nat → List Str → Nat → Rdg (List Str)
  | 0, ns, i => .ok (ns, i)
  | n + 1, ns, i => if cs[i]? = some 32 then (match rdName cs (i + 1) with
      | .ok (x, e) => rdMore cs n (ns ++ [x]) e
      | .error p => .error p) else .ok (ns, i)
def rdNames (cs : List Nat) (i : Nat) : Rdg Tr :=
  match rdName cs (if cs[i]? = some 94 then i + 1 else i) with
  | .error p => .error p
  | .ok (x, e) => match rdMore cs (cs.length + 1) [x] e with
    | .error p => .error p
    | .ok (ns, e2) => if cs[e2]? = some 93 then .ok (.at (!decide (cs[i]? = some 94)) ns, e2 + 1) else .error e2
def rdItem (grp : Nat → PR) (cs : List Nat) (i : Nat) : PR :=
  if cs[i]? = some 46 then some (.ok (.at false [], i + 1))
  else if cs[i]? = some 91 then some (rdNames cs (i + 1))
  else if cs[i]? = some 40 then grp (i + 1)
  else match rdName cs i with
    | .ok (x, e) => some (.ok (.at true [x], e))
    | .error p => some (.error p)
def rdRest (item : Nat → PR) (cs : List Nat) : Nat → Tr → Nat → PR
  | 0, _, _ => none
  | n + 1, t, i => if cs[i]? = some 32 ∧ cs[i + 1]? ≠ some 124 then (match item (i + 1) with
      | some (.ok (u, e)) => rdRest item cs n (.join t u) e
      | r => r) else some (.ok (t, i))
def rdRow (item : Nat → PR) (cs : List Nat) (i : Nat) : PR := match item i with
  | some (.ok (t, e)) => rdRest item cs (cs.length + 1) t e
  | r => r
/-- the place behind some signs that have to stand there -/
def expC (cs : List Nat) : Nat → List Nat → Except Nat Nat
  | i, [] => .ok i
  | i, c :: r => if cs[i]? = some c then expC cs (i + 1) r else .error i
/-- the first wrong place behind a row -/
def behC (cs : List Nat) (i : Nat) : Nat := if cs[i]? = some 32 then i + 1 else i
def rdGroup (cs : List Nat) : Nat → Nat → PR
  | 0, _ => none
  | d + 1, i => match rdRow (rdItem (rdGroup cs d) cs) cs i with
    | some (.ok (t, e)) =>
      if cs[e]? = some 32 then (match expC cs e [32, 124, 32] with
        | .error p => some (.error p)
        | .ok e1 => match rdRow (rdItem (rdGroup cs d) cs) cs e1 with
          | some (.ok (u, e2)) => (match expC cs (behC cs e2) [41] with
            | .error p => some (.error p)
            | .ok e3 => some (.ok (.either t u, e3)))
          | r => r)
      else (match expC cs e [41] with
        | .error p => some (.error p)
        | .ok e1 => if cs[e1]? = some 42 then some (.ok (.rep t, e1 + 1)) else if cs[e1]? = some 63 then some (.ok (.opt t, e1 + 1)) else some (.error e1))
    | r => r
/-- the whole text -/
def rdPat (d : Nat) (cs : List Nat) : Option (Except Nat Tr) := match rdRow (rdItem (rdGroup cs d) cs) cs 0 with
  | some (.ok (t, e)) => if e < cs.length then some (.error (behC cs e)) else some (.ok t)
  | some (.error p) => some (.error p)
  | none => none
/-- the sign at a place, as a text -/
def sgS (cs : List Nat) (i : Nat) : Str := match cs[i]? with
  | some c => ⟨#[c]⟩
  | none => ""
theorem sgS_eq (cs : List Nat) (i c : Nat) : (sgS cs i == (⟨#[c]⟩ : Str)) = decide (cs[i]? = some c) := by
  rw [Bool.eq_iff_iff, beq_iff_eq, decide_eq_true_eq]
  unfold sgS
  cases h : cs[i]? with
  | none => exact ⟨fun z => (by cases z), fun z => by cases z⟩
  | some d =>
    constructor
    · intro z
      cases z
      rfl
    · intro z
      cases z
      rfl
theorem sgS_nil (cs : List Nat) (i : Nat) : (sgS cs i == "") = decide (cs[i]? = none) := by
  rw [Bool.eq_iff_iff, beq_iff_eq, decide_eq_true_eq]
  unfold sgS
  cases h : cs[i]? with
  | none => exact ⟨fun _ => rfl, fun _ => rfl⟩
  | some d => exact ⟨fun z => (by cases z), fun z => by cases z⟩
/-! ### places -/
theorem runN_le : ∀ (n : Nat) (l : List Nat), runN n l ≤ n ∧ runN n l ≤ l.length
  | 0, l => ⟨Nat.le_refl _, Nat.zero_le _⟩
  | n + 1, [] => ⟨Nat.zero_le _, Nat.le_refl _⟩
  | n + 1, c :: r => by
    have h := runN_le n r
    unfold runN
    split
    · rw [List.length_cons]; omega
    · exact ⟨Nat.zero_le _, Nat.zero_le _⟩
theorem runN_ok : ∀ (n : Nat) (l : List Nat), ∀ c ∈ l.take (runN n l), okC c = true
  | 0, l, c, h => by simp [runN] at h
  | n + 1, [], c, h => by simp at h
  | n + 1, d :: r, c, h => by
    unfold runN at h
    split at h
    · rename_i hd
      rw [List.take_succ_cons] at h
      rcases List.mem_cons.mp h with rfl | h
      · exact hd
      · exact runN_ok n r c h
    · simp at h
theorem nmC_of {c : Nat} {r : List Nat} (h : c ∈ letL) (hl : r.length ≤ 7) (hr : ∀ d ∈ r, okC d = true) : nmL (c :: r) = true := by
  unfold nmL
  rw [Bool.and_eq_true, Bool.and_eq_true, decide_eq_true_eq, decide_eq_true_eq, List.all_eq_true]
  refine ⟨by rw [List.length_cons]; omega, h, fun d hd => ?_⟩
  rcases List.mem_cons.mp hd with rfl | hd
  · rw [decide_eq_true h]; rfl
  · exact hr d hd
theorem rdName_ok {cs : List Nat} {i e : Nat} {x : Str} (h : rdName cs i = .ok (x, e)) : i < e ∧ e ≤ cs.length ∧ isNm x = true := by
  unfold rdName at h
  cases hc : cs[i]? with
  | none => rw [hc] at h; cases h
  | some c =>
    rw [hc] at h
    dsimp only at h
    by_cases hl : c ∈ letL
    · rw [if_pos hl] at h
      obtain ⟨rfl, rfl⟩ := Prod.mk.inj (Except.ok.inj h)
      have il := (List.getElem?_eq_some_iff.mp hc).1
      obtain ⟨r1, r2⟩ := runN_le 7 (cs.drop (i + 1))
      rw [List.length_drop] at r2
      refine ⟨by omega, by omega, ?_⟩
      have e : (cs.drop i).take (runN 7 (cs.drop (i + 1)) + 1) = c :: (cs.drop (i + 1)).take (runN 7 (cs.drop (i + 1))) := by
        have : cs.drop i = c :: cs.drop (i + 1) := by
          rw [List.drop_eq_getElem_cons il]
          rw [List.getElem?_eq_getElem il] at hc
          rw [Option.some.inj hc]
        rw [this, List.take_succ_cons]
      show nmL ((cs.drop i).take (runN 7 (cs.drop (i + 1)) + 1)) = true
      rw [e]
      refine nmC_of hl ?_ ?_
      · rw [List.length_take]; omega
      · exact fun d hd => runN_ok 7 _ d hd
    · rw [if_neg hl] at h
      cases h
/-- all names of a tree are names, an atom that takes has some -/
def nmT : Tr → Prop
  | .at k ns => (∀ n ∈ ns, isNm n = true) ∧ (k = true → ns ≠ [])
  | .join a b => nmT a ∧ nmT b
  | .either a b => nmT a ∧ nmT b
  | .rep a => nmT a
  | .opt a => nmT a
theorem rdMore_ok {cs : List Nat} : ∀ {n : Nat} {ns ms : List Str} {i e : Nat}, rdMore cs n ns i = .ok (ms, e) → i ≤ cs.length → i ≤ e ∧ e ≤ cs.length ∧ (∀ x ∈ ms, x ∈ ns ∨ isNm x = true) ∧ ns.length ≤ ms.length ∧ (ms.length - ns.length) * 2 ≤ e - i ∧ (ns ≠ [] → ms ≠ [])
  | 0, ns, ms, i, e, h, hi => by
    obtain ⟨rfl, rfl⟩ := Prod.mk.inj (Except.ok.inj h)
    exact ⟨Nat.le_refl _, hi, fun x h => .inl h, Nat.le_refl _, by omega, id⟩
  | n + 1, ns, ms, i, e, h, hi => by
    unfold rdMore at h
    split at h
    · cases hn : rdName cs (i + 1) with
      | error p => rw [hn] at h; cases h
      | ok z =>
        obtain ⟨x, e1⟩ := z
        rw [hn] at h
        obtain ⟨a1, a2, a3⟩ := rdName_ok hn
        obtain ⟨b1, b2, b3, b4, b5, b6⟩ := rdMore_ok h a2
        rw [List.length_append, List.length_singleton] at b4 b5
        refine ⟨by omega, b2, fun y hy => ?_, by omega, by omega, fun _ => b6 (by simp)⟩
        rcases b3 y hy with q | q
        · rcases List.mem_append.mp q with q | q
          · exact .inl q
          · rw [List.mem_singleton.mp q]; exact .inr a3
        · exact .inr q
    · obtain ⟨rfl, rfl⟩ := Prod.mk.inj (Except.ok.inj h)
      exact ⟨Nat.le_refl _, hi, fun x h => .inl h, Nat.le_refl _, by omega, id⟩
/-- what a reader that is right tells: a place further on, a tree of names, of no more atoms than signs -/
structure RdOk (cs : List Nat) (i : Nat) (t : Tr) (e : Nat) : Prop where
  lt : i < e
  le : e ≤ cs.length
  nm : nmT t
  nd : t.ats ≤ e - i
theorem rdNames_ok {cs : List Nat} {i e : Nat} {t : Tr} (h : rdNames cs i = .ok (t, e)) : RdOk cs i t e := by
  unfold rdNames at h
  cases hn : rdName cs (if cs[i]? = some 94 then i + 1 else i) with
  | error p => rw [hn] at h; cases h
  | ok z =>
    obtain ⟨x, e1⟩ := z
    rw [hn] at h
    dsimp only at h
    obtain ⟨a1, a2, a3⟩ := rdName_ok hn
    have ai : i ≤ (if cs[i]? = some 94 then i + 1 else i) := by split <;> omega
    cases hm : rdMore cs (cs.length + 1) [x] e1 with
    | error p => rw [hm] at h; cases h
    | ok z =>
      obtain ⟨ns, e2⟩ := z
      rw [hm] at h
      dsimp only at h
      obtain ⟨b1, b2, b3, b4, b5, b6⟩ := rdMore_ok hm a2
      split at h
      · rename_i hc
        obtain ⟨rfl, rfl⟩ := Prod.mk.inj (Except.ok.inj h)
        have := (List.getElem?_eq_some_iff.mp hc).1
        refine ⟨by omega, by omega, ⟨fun n hn => ?_, fun _ => b6 (by simp)⟩, by show 1 ≤ _; omega⟩
        rcases b3 n hn with q | q
        · rw [List.mem_singleton.mp q]; exact a3
        · exact q
      · cases h
/-- a reader is right -/
def GoodR (cs : List Nat) (f : Nat → PR) : Prop := ∀ i t e, f i = some (.ok (t, e)) → RdOk cs i t e
theorem rdItem_ok {cs : List Nat} {grp : Nat → PR} (hg : GoodR cs grp) : GoodR cs (rdItem grp cs) := fun i t e h => by
  unfold rdItem at h
  split at h
  · rename_i hc
    obtain ⟨rfl, rfl⟩ := Prod.mk.inj (Except.ok.inj (Option.some.inj h))
    have := (List.getElem?_eq_some_iff.mp hc).1
    exact ⟨by omega, by omega, ⟨(fun n h => by cases h), (fun z => by cases z)⟩, by show 1 ≤ _; omega⟩
  · split at h
    · have := rdNames_ok (Option.some.inj h)
      exact ⟨by have := this.lt; omega, this.le, this.nm, by have := this.nd; omega⟩
    · split at h
      · have := hg _ _ _ h
        exact ⟨by have := this.lt; omega, this.le, this.nm, by have := this.nd; omega⟩
      · cases hn : rdName cs i with
        | error p => rw [hn] at h; cases h
        | ok z =>
          obtain ⟨x, e1⟩ := z
          rw [hn] at h
          obtain ⟨rfl, rfl⟩ := Prod.mk.inj (Except.ok.inj (Option.some.inj h))
          obtain ⟨a1, a2, a3⟩ := rdName_ok hn
          exact ⟨a1, a2, ⟨fun n hn => by rw [List.mem_singleton.mp hn]; exact a3, fun _ => by simp⟩, by show 1 ≤ _; omega⟩
theorem rdRest_ok {cs : List Nat} {item : Nat → PR} (hi : GoodR cs item) {i0 : Nat} : ∀ {n : Nat} {t u : Tr} {i e : Nat}, rdRest item cs n t i = some (.ok (u, e)) → RdOk cs i0 t i → RdOk cs i0 u e
  | 0, t, u, i, e, h, _ => by cases h
  | n + 1, t, u, i, e, h, r => by
    unfold rdRest at h
    split at h
    · cases hn : item (i + 1) with
      | none => rw [hn] at h; cases h
      | some z =>
        rw [hn] at h
        cases z with
        | error p => cases h
        | ok z =>
          obtain ⟨v, e1⟩ := z
          have a := hi _ _ _ hn
          have h1 := r.lt
          have h2 := a.lt
          have h3 := r.nd
          have h4 := a.nd
          exact rdRest_ok hi h ⟨by omega, a.le, ⟨r.nm, a.nm⟩, by show t.ats + v.ats ≤ _; omega⟩
    · obtain ⟨rfl, rfl⟩ := Prod.mk.inj (Except.ok.inj (Option.some.inj h))
      exact r
theorem rdRow_ok {cs : List Nat} {item : Nat → PR} (hi : GoodR cs item) : GoodR cs (rdRow item cs) := fun i t e h => by
  unfold rdRow at h
  cases hn : item i with
  | none => rw [hn] at h; cases h
  | some z =>
    rw [hn] at h
    cases z with
    | error p => cases h
    | ok z =>
      obtain ⟨v, e1⟩ := z
      exact rdRest_ok hi h (hi _ _ _ hn)
theorem expC_ok {cs : List Nat} : ∀ {l : List Nat} {i e : Nat}, expC cs i l = .ok e → e = i + l.length ∧ (l ≠ [] → e ≤ cs.length)
  | [], i, e, h => by
    cases h
    exact ⟨rfl, fun z => absurd rfl z⟩
  | c :: r, i, e, h => by
    unfold expC at h
    split at h
    · rename_i hc
      obtain ⟨a, b⟩ := expC_ok h
      have := (List.getElem?_eq_some_iff.mp hc).1
      refine ⟨by rw [a, List.length_cons]; omega, fun _ => ?_⟩
      cases r with
      | nil =>
        simp only [List.length_nil] at a
        omega
      | cons d r => exact b (by simp)
    · cases h
theorem behC_le (cs : List Nat) (i : Nat) : i ≤ behC cs i ∧ behC cs i ≤ i + 1 := by
  unfold behC
  split <;> omega
theorem rdGroup_ok (cs : List Nat) : ∀ d, GoodR cs (rdGroup cs d)
  | 0 => fun i t e h => by cases h
  | d + 1 => fun i t e h => by
    have ir := rdRow_ok (rdItem_ok (rdGroup_ok cs d))
    unfold rdGroup at h
    cases hn : rdRow (rdItem (rdGroup cs d) cs) cs i with
    | none => rw [hn] at h; cases h
    | some z =>
      rw [hn] at h
      cases z with
      | error p => cases h
      | ok z =>
        obtain ⟨v, e1⟩ := z
        have a := ir _ _ _ hn
        have a1 := a.lt
        have a2 := a.nd
        dsimp only at h
        split at h
        · cases hx : expC cs e1 [32, 124, 32] with
          | error p => rw [hx] at h; cases h
          | ok e2 =>
            rw [hx] at h
            obtain ⟨x1, x2⟩ := expC_ok hx
            have x1 : e2 = e1 + 3 := x1
            dsimp only at h
            cases hn2 : rdRow (rdItem (rdGroup cs d) cs) cs e2 with
            | none => rw [hn2] at h; cases h
            | some z =>
              rw [hn2] at h
              cases z with
              | error p => cases h
              | ok z =>
                obtain ⟨u, e3⟩ := z
                have b := ir _ _ _ hn2
                have b1 := b.lt
                have b2 := b.nd
                dsimp only at h
                cases hy : expC cs (behC cs e3) [41] with
                | error p => rw [hy] at h; cases h
                | ok e4 =>
                  rw [hy] at h
                  obtain ⟨rfl, rfl⟩ := Prod.mk.inj (Except.ok.inj (Option.some.inj h))
                  obtain ⟨y1, y2⟩ := expC_ok hy
                  have y1 : e4 = behC cs e3 + 1 := y1
                  have := behC_le cs e3
                  exact ⟨by omega, y2 (by simp), ⟨a.nm, b.nm⟩, by show v.ats + u.ats ≤ _; omega⟩
        · cases hx : expC cs e1 [41] with
          | error p => rw [hx] at h; cases h
          | ok e2 =>
            rw [hx] at h
            obtain ⟨x1, x2⟩ := expC_ok hx
            have x1 : e2 = e1 + 1 := x1
            dsimp only at h
            split at h
            · rename_i hc
              obtain ⟨rfl, rfl⟩ := Prod.mk.inj (Except.ok.inj (Option.some.inj h))
              have := (List.getElem?_eq_some_iff.mp hc).1
              exact ⟨by omega, by omega, a.nm, by show v.ats ≤ _; omega⟩
            · split at h
              · rename_i hc
                obtain ⟨rfl, rfl⟩ := Prod.mk.inj (Except.ok.inj (Option.some.inj h))
                have := (List.getElem?_eq_some_iff.mp hc).1
                exact ⟨by omega, by omega, a.nm, by show v.ats ≤ _; omega⟩
              · cases h
end DL

/-! GS: objects made by a class that a local name holds, the argument of which raises (own work). -/
namespace DL
open PySem L2 PySem.W PyProof.Rows
section
variable {K : PySem.W.Frag} {ro : Ro} {ka k1 k2 : Cells} {te : TE} {tr : TA} {w : W} {C C1 : Addr} {E E' : XK} {i : Nat} {sp : Sp} {dvs : List V} {gs : List (Str × D)}
theorem evx_argM (h : EvX K te ro ka E C1 gs k2) : EvX K (tMake C sp dvs E' (tCons te tr)) ro ka E C1 gs k2 := fun B F0 ta sg H Q e q => h B F0 ta sg H _ e q
theorem evx_makeL (hi : ro[i]? = some (some (.val (.adr C)))) (h : EvX K (tMake C sp dvs E' tr) ro ka E C1 gs k2) : EvX K (tMakeL i C sp dvs E' tr) ro ka E C1 gs k2 := fun B F0 ta sg H Q e q => by
  obtain ⟨F, g, e'⟩ := id e
  obtain ⟨v, h1, h2⟩ := e'.sl i _ hi
  have : v = .ref C := h2
  subst this
  exact ⟨h1, h B F0 ta sg H Q e q⟩
theorem ev_makeL (hi : ro[i]? = some (some (.val (.adr C)))) (h : EvD K (tMake C sp dvs E tr) ro ka w k1) : EvD K (tMakeL i C sp dvs E tr) ro ka w k1 := fun B F0 ta sg H Q e q => by
  obtain ⟨F, g, e'⟩ := id e
  obtain ⟨v, h1, h2⟩ := e'.sl i _ hi
  have : v = .ref C := h2
  subst this
  exact ⟨h1, h B F0 ta sg H Q e q⟩
end
end DL

/-! GT: the text of a tree, read back (own work). -/
namespace DL
open PySem L2 PySem.W
/-! ### fuel -/
theorem rdRest_fuel {cs : List Nat} {item : Nat → PR} (hi : GoodR cs item) : ∀ (n m : Nat) (t : Tr) (i : Nat), cs.length + 1 ≤ n + i → cs.length + 1 ≤ m + i → i ≤ cs.length → rdRest item cs n t i = rdRest item cs m t i
  | 0, m, t, i, h1, _, h3 => absurd h1 (by omega)
  | n + 1, 0, t, i, h1, h2, h3 => absurd h2 (by omega)
  | n + 1, m + 1, t, i, h1, h2, h3 => by
    unfold rdRest
    cases h : item (i + 1) with
    | none => rfl
    | some z =>
      cases z with
      | error p => rfl
      | ok z =>
        obtain ⟨u, e⟩ := z
        have ok := hi _ _ _ h
        have := ok.lt
        show (if _ then rdRest item cs n (.join t u) e else _) = (if _ then rdRest item cs m (.join t u) e else _)
        rw [rdRest_fuel hi n m (.join t u) e (by omega) (by omega) ok.le]
/-! ### what stands at a place -/
theorem dr1 {cs r : List Nat} {i c : Nat} (h : cs.drop i = c :: r) : cs[i]? = some c ∧ cs.drop (i + 1) = r := by
  constructor
  · have := congrArg (fun l => l[0]?) h
    simpa [List.getElem?_drop] using this
  · have := congrArg (List.drop 1) h
    simpa [List.drop_drop] using this
theorem drA {cs l r : List Nat} {i : Nat} (h : cs.drop i = l ++ r) : cs.drop (i + l.length) = r := by
  have := congrArg (List.drop l.length) h
  rw [List.drop_drop, List.drop_left] at this
  exact this
/-- no letter and no figure comes next -/
def Brk (post : List Nat) : Prop := ∀ c r, post = c :: r → okC c = false
theorem brk_nil : Brk [] := fun c r h => by cases h
theorem brk_of {c : Nat} {r : List Nat} (h : okC c = false) : Brk (c :: r) := fun d s e => by
  cases e
  exact h
theorem runN_all : ∀ {l : List Nat} {n : Nat} {post : List Nat}, l.length ≤ n → (∀ c ∈ l, okC c = true) → Brk post → runN n (l ++ post) = l.length
  | [], n, post, _, _, hb => by
    cases n with
    | zero => rfl
    | succ n =>
      cases post with
      | nil => rfl
      | cons c r =>
        show (if okC c then _ else 0) = 0
        rw [if_neg (by rw [hb c r rfl]; decide)]
  | c :: l, 0, post, hl, _, _ => absurd hl (by simp)
  | c :: l, n + 1, post, hl, hc, hb => by
    show (if okC c then runN n (l ++ post) + 1 else 0) = _
    rw [if_pos (hc c List.mem_cons_self), runN_all (by simpa using hl) (fun x hx => hc x (List.mem_cons_of_mem _ hx)) hb]
    rfl
theorem nmL_cons {l : List Nat} (h : nmL l = true) : ∃ c r, l = c :: r ∧ c ∈ letL ∧ r.length ≤ 7 ∧ ∀ d ∈ r, okC d = true := by
  cases l with
  | nil => cases h
  | cons c r =>
    unfold nmL at h
    rw [Bool.and_eq_true, Bool.and_eq_true, decide_eq_true_eq, decide_eq_true_eq, List.all_eq_true] at h
    exact ⟨c, r, rfl, h.2.1, by have := h.1; rw [List.length_cons] at this; omega, fun d hd => h.2.2 d (List.mem_cons_of_mem _ hd)⟩
theorem rdName_at {cs post : List Nat} {i : Nat} {x : Str} (hx : isNm x = true) (h : cs.drop i = x.cps.toList ++ post) (hb : Brk post) : rdName cs i = .ok (x, i + x.cps.toList.length) := by
  obtain ⟨c, r, e, hc, hr, ho⟩ := nmL_cons hx
  have hx2 : x = ⟨(c :: r).toArray⟩ := str_ext e
  rw [e] at h
  obtain ⟨h1, h2⟩ := dr1 h
  have hrun : runN 7 (cs.drop (i + 1)) = r.length := by rw [h2]; exact runN_all hr ho hb
  unfold rdName
  rw [h1]
  show (if c ∈ letL then _ else _) = _
  rw [if_pos hc, hrun, e, h]
  have : (c :: r ++ post).take (r.length + 1) = c :: r := by rw [List.cons_append, List.take_succ_cons, List.take_left]
  rw [this, hx2]
  rfl
theorem let_ne {c : Nat} (h : c ∈ letL) : c ≠ 94 ∧ c ≠ 46 ∧ c ≠ 91 ∧ c ≠ 40 ∧ c ≠ 124 := by
  have : ∀ c ∈ letL, c ≠ 94 ∧ c ≠ 46 ∧ c ≠ 91 ∧ c ≠ 40 ∧ c ≠ 124 := by decide
  exact this c h
theorem ok32 : okC 32 = false := by decide
theorem ok93 : okC 93 = false := by decide
theorem ok41 : okC 41 = false := by decide
/-- names with a blank ahead of each -/
def nmsC (ns : List Str) : List Nat := ns.flatMap fun y => 32 :: y.cps.toList
/-- names with a blank between them -/
def jnC : List Str → List Nat
  | [] => []
  | x :: xs => x.cps.toList ++ nmsC xs
theorem nmsC_cons (y : Str) (ys : List Str) : nmsC (y :: ys) = 32 :: (y.cps.toList ++ nmsC ys) := rfl
theorem nmsC_brk (ys : List Str) {post : List Nat} (hb : Brk post) : Brk (nmsC ys ++ post) := by
  cases ys with
  | nil => exact hb
  | cons y ys =>
    rw [nmsC_cons]
    exact brk_of ok32
theorem rdMore_at {cs : List Nat} {post : List Nat} : ∀ {ns : List Str} {n : Nat} {acc : List Str} {i : Nat}, (∀ x ∈ ns, isNm x = true) → cs.drop i = nmsC ns ++ 93 :: post → ns.length < n → rdMore cs n acc i = .ok (acc ++ ns, i + (nmsC ns).length)
  | ns, 0, acc, i, _, _, hl => absurd hl (by omega)
  | [], n + 1, acc, i, _, h, _ => by
    obtain ⟨h1, _⟩ := dr1 (show cs.drop i = 93 :: post from h)
    unfold rdMore
    rw [if_neg (by rw [h1]; decide), List.append_nil]
    rfl
  | y :: ys, n + 1, acc, i, hn, h, hl => by
    have h : cs.drop i = 32 :: (y.cps.toList ++ (nmsC ys ++ 93 :: post)) := by
      rw [h, nmsC_cons, List.cons_append, List.append_assoc]
    obtain ⟨h1, h2⟩ := dr1 h
    have nm := rdName_at (hn y List.mem_cons_self) h2 (nmsC_brk ys (brk_of ok93))
    unfold rdMore
    rw [if_pos h1, nm]
    show rdMore cs n (acc ++ [y]) _ = _
    rw [rdMore_at (fun x hx => hn x (List.mem_cons_of_mem _ hx)) (drA h2) (by simpa using hl), List.append_assoc, nmsC_cons, List.length_cons, List.length_append]
    congr 2
    omega
theorem nmsC_len : ∀ xs : List Str, xs.length ≤ (nmsC xs).length
  | [] => Nat.le_refl _
  | x :: xs => by
    have := nmsC_len xs
    rw [nmsC_cons, List.length_cons, List.length_cons, List.length_append]
    omega
theorem rdNames_at {cs post : List Nat} {i : Nat} {k : Bool} {x : Str} {xs : List Str} (hn : ∀ y ∈ x :: xs, isNm y = true) (h : cs.drop i = (if k then [] else [94]) ++ (jnC (x :: xs) ++ 93 :: post)) : rdNames cs i = .ok (.at k (x :: xs), i + (if k then 0 else 1) + (jnC (x :: xs)).length + 1) := by
  obtain ⟨c, r, e, hc, _, _⟩ := nmL_cons (hn x List.mem_cons_self)
  have hk : decide (cs[i]? = some 94) = !k ∧ cs.drop (i + if k then 0 else 1) = jnC (x :: xs) ++ 93 :: post := by
    cases k with
    | true =>
      have h' : cs.drop i = c :: (r ++ nmsC xs ++ 93 :: post) := by
        rw [h]
        show x.cps.toList ++ nmsC xs ++ 93 :: post = _
        rw [e]
        rfl
      refine ⟨?_, h⟩
      rw [(dr1 h').1]
      exact decide_eq_false fun z => (let_ne hc).1 (Option.some.inj z)
    | false =>
      obtain ⟨h1, h2⟩ := dr1 (show cs.drop i = 94 :: (jnC (x :: xs) ++ 93 :: post) from h)
      exact ⟨decide_eq_true h1, h2⟩
  obtain ⟨h1, h2⟩ := hk
  have hj : (if cs[i]? = some 94 then i + 1 else i) = i + if k then 0 else 1 := by
    cases k with
    | true => rw [if_neg (of_decide_eq_false h1)]; rfl
    | false => rw [if_pos (of_decide_eq_true h1)]; rfl
  have h3 : cs.drop (i + if k then 0 else 1) = x.cps.toList ++ (nmsC xs ++ 93 :: post) := by
    rw [h2]
    show x.cps.toList ++ nmsC xs ++ _ = _
    rw [List.append_assoc]
  have n1 := rdName_at (hn x List.mem_cons_self) h3 (nmsC_brk xs (brk_of ok93))
  have h4 := drA h3
  have hl : xs.length ≤ cs.length := by
    have := congrArg List.length h4
    rw [List.length_drop, List.length_append] at this
    have := nmsC_len xs
    omega
  have n2 := rdMore_at (acc := [x]) (n := cs.length + 1) (fun y hy => hn y (List.mem_cons_of_mem _ hy)) h4 (by omega)
  have h5 := (dr1 (drA h4)).1
  unfold rdNames
  rw [hj, n1]
  dsimp only
  rw [n2]
  dsimp only
  rw [if_pos h5, h1]
  have : (jnC (x :: xs)).length = x.cps.toList.length + (nmsC xs).length := List.length_append
  rw [this, Bool.not_not]
  congr 2
  omega
/-! ### texts of trees, and what is read from them -/
/-- the names as they are written: as they stand, or in order -/
def wrN (m : Bool) (ns : List Str) : List Str := if m then ns else inOrd ns
/-- the text of an atom: with brackets also round a single name, or not -/
def atC (m k : Bool) (ns : List Str) : List Nat := match k with
  | true => if ns.length = 1 ∧ m = false then (ns.getD 0 "").cps.toList else 91 :: (jnC ns ++ [93])
  | false => if ns = [] then [46] else 91 :: 94 :: (jnC ns ++ [93])
def txC (m : Bool) : Tr → List Nat
  | .at k ns => atC m k (wrN m ns)
  | .join a b => txC m a ++ 32 :: txC m b
  | .either a b => 40 :: (txC m a ++ 32 :: 124 :: 32 :: (txC m b ++ [41]))
  | .rep a => 40 :: (txC m a ++ [41, 42])
  | .opt a => 40 :: (txC m a ++ [41, 63])
def jnT : Option Tr → Tr → Tr
  | none, t => t
  | some u, t => .join u t
/-- .. joins from the left -/
def lnT (m : Bool) : Tr → Option Tr → Tr
  | .at k ns, o => jnT o (.at k (wrN m ns))
  | .join a b, o => lnT m b (some (lnT m a o))
  | .either a b, o => jnT o (.either (lnT m a none) (lnT m b none))
  | .rep a, o => jnT o (.rep (lnT m a none))
  | .opt a, o => jnT o (.opt (lnT m a none))
/-- brackets within brackets -/
def grT : Tr → Nat
  | .at _ _ => 0
  | .join a b => max (grT a) (grT b)
  | .either a b => max (grT a) (grT b) + 1
  | .rep a => grT a + 1
  | .opt a => grT a + 1
theorem wrN_mem {m : Bool} {ns : List Str} {x : Str} : x ∈ wrN m ns ↔ x ∈ ns := by
  cases m with
  | true => exact Iff.rfl
  | false => exact mem_srt.trans mem_dedS
theorem wrN_nil {m : Bool} {ns : List Str} (h : ns ≠ []) : wrN m ns ≠ [] := by
  cases ns with
  | nil => exact absurd rfl h
  | cons n ns => exact List.ne_nil_of_mem (wrN_mem.mpr List.mem_cons_self)
theorem atC_first {m k : Bool} {ns : List Str} (hn : ∀ n ∈ ns, isNm n = true) (h0 : k = true → ns ≠ []) : ∃ c r, atC m k ns = c :: r ∧ c ≠ 124 := by
  cases k with
  | true =>
    unfold atC
    dsimp only
    split
    · rename_i h
      cases ns with
      | nil => exact absurd rfl (h0 rfl)
      | cons n ns =>
        obtain ⟨c, r, e, hc, _⟩ := nmL_cons (hn n List.mem_cons_self)
        exact ⟨c, r, e, (let_ne hc).2.2.2.2⟩
    · exact ⟨_, _, rfl, by decide⟩
  | false =>
    unfold atC
    dsimp only
    split
    · exact ⟨_, _, rfl, by decide⟩
    · exact ⟨_, _, rfl, by decide⟩
theorem txC_first {m : Bool} : ∀ {t : Tr}, nmT t → ∃ c r, txC m t = c :: r ∧ c ≠ 124
  | .at k ns, h => atC_first (fun n hn => h.1 n (wrN_mem.mp hn)) fun z => wrN_nil (h.2 z)
  | .join a b, h => by
    obtain ⟨c, r, e, hc⟩ := txC_first (m := m) h.1
    refine ⟨c, r ++ 32 :: txC m b, ?_, hc⟩
    show txC m a ++ _ = _
    rw [e]
    rfl
  | .either a b, h => ⟨_, _, rfl, by decide⟩
  | .rep a, h => ⟨_, _, rfl, by decide⟩
  | .opt a, h => ⟨_, _, rfl, by decide⟩
theorem rdItem_atom {m k : Bool} {grp : Nat → PR} {cs post : List Nat} {i : Nat} {ns : List Str} (hn : ∀ n ∈ ns, isNm n = true) (h0 : k = true → ns ≠ []) (h : cs.drop i = atC m k ns ++ post) (hb : Brk post) : rdItem grp cs i = some (.ok (.at k ns, i + (atC m k ns).length)) := by
  have brk : ∀ (x : Str) (xs : List Str), ns = x :: xs → atC m k ns = 91 :: ((if k then [] else [94]) ++ (jnC ns ++ [93])) → rdItem grp cs i = some (.ok (.at k ns, i + (atC m k ns).length)) := fun x xs e ea => by
    rw [ea, List.cons_append] at h
    obtain ⟨h1, h2⟩ := dr1 h
    rw [List.append_assoc, List.append_assoc] at h2
    unfold rdItem
    rw [if_neg (by rw [h1]; decide), if_pos h1, ea]
    subst e
    rw [rdNames_at hn h2]
    cases k with
    | true =>
      rw [List.length_cons, List.length_append, List.length_append]
      show some (Except.ok (_, i + 1 + 0 + _ + 1)) = some (Except.ok (_, i + (0 + (_ + 1) + 1)))
      congr 3
      omega
    | false =>
      rw [List.length_cons, List.length_append, List.length_append]
      show some (Except.ok (_, i + 1 + 1 + _ + 1)) = some (Except.ok (_, i + (1 + (_ + 1) + 1)))
      congr 3
      omega
  cases k with
  | true =>
    cases ns with
    | nil => exact absurd rfl (h0 rfl)
    | cons x xs =>
      by_cases h1 : (x :: xs).length = 1 ∧ m = false
      · have hxs : xs = [] := List.eq_nil_of_length_eq_zero (by have := h1.1; rw [List.length_cons] at this; omega)
        subst hxs
        have ea : atC m true [x] = x.cps.toList := if_pos h1
        rw [ea] at h ⊢
        obtain ⟨c, r, e, hc, _⟩ := nmL_cons (hn x List.mem_cons_self)
        have hc0 := (dr1 (show cs.drop i = c :: (r ++ post) by rw [h, e]; rfl)).1
        obtain ⟨_, n1, n2, n3, _⟩ := let_ne hc
        unfold rdItem
        rw [hc0, if_neg (fun z => n1 (Option.some.inj z)), if_neg (fun z => n2 (Option.some.inj z)), if_neg (fun z => n3 (Option.some.inj z)), rdName_at (hn x List.mem_cons_self) h hb]
      · exact brk x xs rfl (if_neg h1)
  | false =>
    cases ns with
    | nil =>
      have ea : atC m false [] = [46] := by unfold atC; rfl
      rw [ea] at h ⊢
      unfold rdItem
      rw [if_pos (dr1 h).1]
      rfl
    | cons x xs => exact brk x xs rfl (by unfold atC; rfl)
theorem rest_stop {cs : List Nat} {item : Nat → PR} {u : Tr} {e : Nat} (h : ¬ (cs[e]? = some 32 ∧ cs[e + 1]? ≠ some 124)) : rdRest item cs (cs.length + 1) u e = some (.ok (u, e)) := if_neg h
theorem expC_cons {cs : List Nat} {i c : Nat} {l : List Nat} (h : cs[i]? = some c) : expC cs i (c :: l) = expC cs (i + 1) l := if_pos h
/-- a row goes on: with a row so far, behind a blank -/
def rdOn (cs : List Nat) (d : Nat) : Option Tr → Nat → PR
  | none, i => rdRow (rdItem (rdGroup cs d) cs) cs i
  | some u, i => rdRest (rdItem (rdGroup cs d) cs) cs (cs.length + 1) u i
def offT : Option Tr → Nat
  | none => 0
  | some _ => 1
theorem rdOn_item {cs : List Nat} {d i e : Nat} {o : Option Tr} {t : Tr} (hi : i ≤ cs.length) (h : ∀ u, o = some u → cs[i]? = some 32 ∧ cs[i + 1]? ≠ some 124) (hit : rdItem (rdGroup cs d) cs (i + offT o) = some (.ok (t, e))) : rdOn cs d o i = rdRest (rdItem (rdGroup cs d) cs) cs (cs.length + 1) (jnT o t) e := by
  have good := rdItem_ok (rdGroup_ok cs d)
  have ok := good _ _ _ hit
  cases o with
  | none =>
    show rdRow _ _ _ = _
    unfold rdRow
    rw [show rdItem (rdGroup cs d) cs i = some (.ok (t, e)) from hit]
    rfl
  | some u =>
    have un : rdRest (rdItem (rdGroup cs d) cs) cs (cs.length + 1) u i = (match rdItem (rdGroup cs d) cs (i + 1) with
        | some (.ok (v, e)) => rdRest (rdItem (rdGroup cs d) cs) cs cs.length (.join u v) e
        | r => r) := if_pos (h u rfl)
    show rdRest _ _ _ _ _ = _
    rw [un, show rdItem (rdGroup cs d) cs (i + 1) = some (.ok (t, e)) from hit]
    have := ok.lt
    exact rdRest_fuel good _ _ _ _ (by have : offT (some u) = 1 := rfl; omega) (by omega) ok.le
def blkT : Option Tr → List Nat
  | none => []
  | some _ => [32]
theorem blk_at {m : Bool} {cs post : List Nat} {o : Option Tr} {i : Nat} {t : Tr} (nm : nmT t) (h : cs.drop i = blkT o ++ (txC m t ++ post)) : i ≤ cs.length ∧ (∀ u, o = some u → cs[i]? = some 32 ∧ cs[i + 1]? ≠ some 124) ∧ cs.drop (i + offT o) = txC m t ++ post := by
  obtain ⟨c, r, e, hc⟩ := txC_first (m := m) nm
  cases o with
  | none =>
    refine ⟨?_, fun u z => (by cases z), h⟩
    have := congrArg List.length h
    rw [List.length_drop, List.length_append, List.length_append, e, List.length_cons] at this
    omega
  | some v =>
    obtain ⟨h1, h2⟩ := dr1 (show cs.drop i = 32 :: (txC m t ++ post) from h)
    refine ⟨Nat.le_of_lt (List.getElem?_eq_some_iff.mp h1).1, fun u _ => ⟨h1, ?_⟩, h2⟩
    rw [e] at h2
    rw [(dr1 (show cs.drop (i + 1) = c :: (r ++ post) from h2)).1]
    exact fun z => hc (Option.some.inj z)
theorem stop41 {cs r : List Nat} {e : Nat} (h : cs.drop e = 41 :: r) : ¬ (cs[e]? = some 32 ∧ cs[e + 1]? ≠ some 124) := fun z => by
  rw [(dr1 h).1] at z
  cases z.1
theorem item_grp {cs r : List Nat} {d i : Nat} (h : cs.drop i = 40 :: r) : rdItem (rdGroup cs d) cs i = rdGroup cs d (i + 1) := by
  unfold rdItem
  rw [(dr1 h).1, if_neg (by decide), if_neg (by decide), if_pos rfl]
/-- a tree's text, read -/
theorem rd_at {m : Bool} {cs : List Nat} : ∀ (t : Tr) (d : Nat) (o : Option Tr) (i : Nat) (post : List Nat), nmT t → grT t ≤ d → Brk post → cs.drop i = blkT o ++ (txC m t ++ post) → rdOn cs d o i = rdRest (rdItem (rdGroup cs d) cs) cs (cs.length + 1) (lnT m t o) (i + offT o + (txC m t).length)
  | .at k ns, d, o, i, post, nm, hg, hb, h => by
    obtain ⟨h1, h2, h3⟩ := blk_at (t := .at k ns) nm h
    exact rdOn_item h1 h2 (rdItem_atom (m := m) (fun n hn => nm.1 n (wrN_mem.mp hn)) (fun z => wrN_nil (nm.2 z)) h3 hb)
  | .join a b, d, o, i, post, nm, hg, hb, h => by
    have hg : max (grT a) (grT b) ≤ d := hg
    have h : cs.drop i = blkT o ++ (txC m a ++ 32 :: (txC m b ++ post)) := by
      rw [h]
      show _ ++ ((txC m a ++ 32 :: txC m b) ++ post) = _
      rw [List.append_assoc]
      rfl
    have hj := drA (blk_at (t := a) nm.1 h).2.2
    have r1 := rd_at a d o i _ nm.1 (by omega) (brk_of ok32) h
    have r2 := rd_at b d (some (lnT m a o)) (i + offT o + (txC m a).length) post nm.2 (by omega) hb hj
    rw [r1]
    refine Eq.trans r2 ?_
    show rdRest _ _ _ _ (i + offT o + (txC m a).length + 1 + (txC m b).length) = rdRest _ _ _ _ (i + offT o + (txC m a ++ 32 :: txC m b).length)
    rw [List.length_append, List.length_cons]
    congr 1
    omega
  | .either a b, 0, o, i, post, nm, hg, hb, h => absurd (show max (grT a) (grT b) + 1 ≤ 0 from hg) (by omega)
  | .either a b, d + 1, o, i, post, nm, hg, hb, h => by
    have hg : max (grT a) (grT b) + 1 ≤ d + 1 := hg
    obtain ⟨h1, h2, h3⟩ := blk_at (t := .either a b) nm h
    generalize hj : i + offT o = j at *
    have h3 : cs.drop j = 40 :: (txC m a ++ 32 :: 124 :: 32 :: (txC m b ++ 41 :: post)) := by
      rw [h3]
      show 40 :: ((txC m a ++ 32 :: 124 :: 32 :: (txC m b ++ [41])) ++ post) = _
      simp
    obtain ⟨c1, c2⟩ := dr1 h3
    have r1 := rd_at a d none (j + 1) _ nm.1 (by omega) (brk_of ok32) c2
    have d1 := drA c2
    obtain ⟨s1, s2⟩ := dr1 d1
    obtain ⟨s3, s4⟩ := dr1 s2
    obtain ⟨s5, s6⟩ := dr1 s4
    have r2 := rd_at b d none (j + 1 + (txC m a).length + 1 + 1 + 1) _ nm.2 (by omega) (brk_of ok41) s6
    have d2 := drA s6
    have e1 : rdRow (rdItem (rdGroup cs d) cs) cs (j + 1) = some (.ok (lnT m a none, j + 1 + (txC m a).length)) := Eq.trans r1 (rest_stop fun z => z.2 s3)
    have e2 : rdRow (rdItem (rdGroup cs d) cs) cs (j + 1 + (txC m a).length + 1 + 1 + 1) = some (.ok (lnT m b none, j + 1 + (txC m a).length + 1 + 1 + 1 + (txC m b).length)) := Eq.trans r2 (rest_stop (stop41 d2))
    have x1 : expC cs (j + 1 + (txC m a).length) [32, 124, 32] = .ok (j + 1 + (txC m a).length + 1 + 1 + 1) := by
      rw [expC_cons s1, expC_cons s3, expC_cons s5]
      rfl
    have t1 := (dr1 d2).1
    have bh : behC cs (j + 1 + (txC m a).length + 1 + 1 + 1 + (txC m b).length) = j + 1 + (txC m a).length + 1 + 1 + 1 + (txC m b).length := by
      unfold behC
      rw [t1]
      rfl
    have x2 : expC cs (j + 1 + (txC m a).length + 1 + 1 + 1 + (txC m b).length) [41] = .ok (j + 1 + (txC m a).length + 1 + 1 + 1 + (txC m b).length + 1) := by
      rw [expC_cons t1]
      rfl
    have it : rdItem (rdGroup cs (d + 1)) cs (i + offT o) = some (.ok (.either (lnT m a none) (lnT m b none), j + (txC m (.either a b)).length)) := by
      rw [hj, item_grp h3]
      unfold rdGroup
      rw [e1]
      dsimp only
      rw [if_pos s1, x1]
      dsimp only
      rw [e2]
      dsimp only
      rw [bh, x2]
      show some (Except.ok (_, _)) = some (Except.ok (_, j + (40 :: (txC m a ++ 32 :: 124 :: 32 :: (txC m b ++ [41]))).length))
      simp only [List.length_cons, List.length_append, List.length_nil]
      congr 3
      omega
    exact rdOn_item h1 h2 it
  | .rep a, 0, o, i, post, nm, hg, hb, h => absurd (show grT a + 1 ≤ 0 from hg) (by omega)
  | .rep a, d + 1, o, i, post, nm, hg, hb, h => by
    have hg : grT a + 1 ≤ d + 1 := hg
    obtain ⟨h1, h2, h3⟩ := blk_at (t := .rep a) nm h
    generalize hj : i + offT o = j at *
    have h3 : cs.drop j = 40 :: (txC m a ++ 41 :: 42 :: post) := by
      rw [h3]
      show 40 :: ((txC m a ++ [41, 42]) ++ post) = _
      simp
    obtain ⟨c1, c2⟩ := dr1 h3
    have r1 := rd_at a d none (j + 1) _ nm (by omega) (brk_of ok41) c2
    have d1 := drA c2
    obtain ⟨s1, s2⟩ := dr1 d1
    obtain ⟨s3, s4⟩ := dr1 s2
    have e1 : rdRow (rdItem (rdGroup cs d) cs) cs (j + 1) = some (.ok (lnT m a none, j + 1 + (txC m a).length)) := Eq.trans r1 (rest_stop (stop41 d1))
    have x1 : expC cs (j + 1 + (txC m a).length) [41] = .ok (j + 1 + (txC m a).length + 1) := by
      rw [expC_cons s1]
      rfl
    have it : rdItem (rdGroup cs (d + 1)) cs (i + offT o) = some (.ok (.rep (lnT m a none), j + (txC m (.rep a)).length)) := by
      rw [hj, item_grp h3]
      unfold rdGroup
      rw [e1]
      dsimp only
      rw [if_neg (by rw [s1]; decide), x1]
      dsimp only
      rw [if_pos s3]
      show some (Except.ok (_, _)) = some (Except.ok (_, j + (40 :: (txC m a ++ [41, 42])).length))
      simp only [List.length_cons, List.length_append, List.length_nil]
      congr 3
      omega
    exact rdOn_item h1 h2 it
  | .opt a, 0, o, i, post, nm, hg, hb, h => absurd (show grT a + 1 ≤ 0 from hg) (by omega)
  | .opt a, d + 1, o, i, post, nm, hg, hb, h => by
    have hg : grT a + 1 ≤ d + 1 := hg
    obtain ⟨h1, h2, h3⟩ := blk_at (t := .opt a) nm h
    generalize hj : i + offT o = j at *
    have h3 : cs.drop j = 40 :: (txC m a ++ 41 :: 63 :: post) := by
      rw [h3]
      show 40 :: ((txC m a ++ [41, 63]) ++ post) = _
      simp
    obtain ⟨c1, c2⟩ := dr1 h3
    have r1 := rd_at a d none (j + 1) _ nm (by omega) (brk_of ok41) c2
    have d1 := drA c2
    obtain ⟨s1, s2⟩ := dr1 d1
    obtain ⟨s3, s4⟩ := dr1 s2
    have e1 : rdRow (rdItem (rdGroup cs d) cs) cs (j + 1) = some (.ok (lnT m a none, j + 1 + (txC m a).length)) := Eq.trans r1 (rest_stop (stop41 d1))
    have x1 : expC cs (j + 1 + (txC m a).length) [41] = .ok (j + 1 + (txC m a).length + 1) := by
      rw [expC_cons s1]
      rfl
    have it : rdItem (rdGroup cs (d + 1)) cs (i + offT o) = some (.ok (.opt (lnT m a none), j + (txC m (.opt a)).length)) := by
      rw [hj, item_grp h3]
      unfold rdGroup
      rw [e1]
      dsimp only
      rw [if_neg (by rw [s1]; decide), x1]
      dsimp only
      rw [if_neg (by rw [s3]; decide), if_pos s3]
      show some (Except.ok (_, _)) = some (Except.ok (_, j + (40 :: (txC m a ++ [41, 63])).length))
      simp only [List.length_cons, List.length_append, List.length_nil]
      congr 3
      omega
    exact rdOn_item h1 h2 it
/-- the text of a tree is read as the tree, its joins from the left -/
theorem rd_text {m : Bool} {t : Tr} {d : Nat} (nm : nmT t) (hd : grT t ≤ d) : rdPat d (txC m t) = some (.ok (lnT m t none)) := by
  have h := rd_at (m := m) (cs := txC m t) t d none 0 [] nm hd brk_nil (List.append_nil _).symm
  have e : rdRow (rdItem (rdGroup (txC m t) d) (txC m t)) (txC m t) 0 = some (.ok (lnT m t none, (txC m t).length)) := by
    refine Eq.trans h ?_
    show rdRest _ _ _ _ (0 + 0 + (txC m t).length) = _
    rw [Nat.zero_add]
    refine rest_stop fun z => ?_
    rw [List.getElem?_eq_none (Nat.le_refl _)] at z
    cases z.1
  unfold rdPat
  rw [e]
  dsimp only
  rw [if_neg (Nat.lt_irrefl _)]
/-! ### the tree read and the tree written -/
def txP : Option Tr → List Nat
  | none => []
  | some u => txC false u ++ [32]
theorem txC_jn (o : Option Tr) (t : Tr) : txC false (jnT o t) = txP o ++ txC false t := by
  cases o with
  | none => rfl
  | some u =>
    show txC false u ++ 32 :: txC false t = (txC false u ++ [32]) ++ txC false t
    rw [List.append_assoc]
    rfl
theorem ord_wr (m : Bool) (ns : List Str) : inOrd (wrN m ns) = inOrd ns := inOrd_eq fun x => wrN_mem
theorem txC_ln (m : Bool) : ∀ (t : Tr) (o : Option Tr), txC false (lnT m t o) = txP o ++ txC false t
  | .at k ns, o => by
    show txC false (jnT o (.at k (wrN m ns))) = _
    rw [txC_jn]
    show txP o ++ atC false k (inOrd (wrN m ns)) = txP o ++ atC false k (inOrd ns)
    rw [ord_wr]
  | .join a b, o => by
    show txC false (lnT m b (some (lnT m a o))) = txP o ++ (txC false a ++ 32 :: txC false b)
    rw [txC_ln m b]
    show (txC false (lnT m a o) ++ [32]) ++ txC false b = _
    rw [txC_ln m a]
    simp
  | .either a b, o => by
    show txC false (jnT o (.either (lnT m a none) (lnT m b none))) = _
    rw [txC_jn]
    show txP o ++ 40 :: (txC false (lnT m a none) ++ 32 :: 124 :: 32 :: (txC false (lnT m b none) ++ [41])) = _
    rw [txC_ln m a, txC_ln m b]
    rfl
  | .rep a, o => by
    show txC false (jnT o (.rep (lnT m a none))) = _
    rw [txC_jn]
    show txP o ++ 40 :: (txC false (lnT m a none) ++ [41, 42]) = _
    rw [txC_ln m a]
    rfl
  | .opt a, o => by
    show txC false (jnT o (.opt (lnT m a none))) = _
    rw [txC_jn]
    show txP o ++ 40 :: (txC false (lnT m a none) ++ [41, 63]) = _
    rw [txC_ln m a]
    rfl
theorem wrN_len (m : Bool) (ns : List Str) : (wrN m ns).length ≤ ns.length := by
  cases m with
  | true => exact Nat.le_refl _
  | false => exact inOrd_len ns
/-- how many signs the text of a nice tree has -/
theorem nmsC_le {xs : List Str} (h : ∀ x ∈ xs, isNm x = true) : (nmsC xs).length ≤ 9 * xs.length := by
  induction xs with
  | nil => exact Nat.le_refl _
  | cons x xs ih =>
    have := isNm_len (h x List.mem_cons_self)
    rw [str_len] at this
    have := ih fun y hy => h y (List.mem_cons_of_mem _ hy)
    rw [nmsC_cons, List.length_cons, List.length_append, List.length_cons]
    omega
theorem jnC_le {xs : List Str} (h : ∀ x ∈ xs, isNm x = true) : (jnC xs).length ≤ 9 * xs.length := by
  cases xs with
  | nil => exact Nat.le_refl _
  | cons x xs =>
    have := isNm_len (h x List.mem_cons_self)
    rw [str_len] at this
    have := nmsC_le fun y hy => h y (List.mem_cons_of_mem _ hy)
    show (x.cps.toList ++ nmsC xs).length ≤ _
    rw [List.length_append, List.length_cons]
    omega
theorem atC_le {m k : Bool} {ns : List Str} (h : ∀ x ∈ ns, isNm x = true) : (atC m k ns).length ≤ 9 * ns.length + 3 := by
  have := jnC_le h
  unfold atC
  split
  · split
    · rename_i q
      cases ns with
      | nil => cases q.1
      | cons n ns =>
        have := isNm_len (h n List.mem_cons_self)
        rw [str_len] at this
        show n.cps.toList.length ≤ _
        rw [List.length_cons]
        omega
    · rw [List.length_cons, List.length_append, List.length_singleton]
      omega
  · split
    · show 1 ≤ _
      omega
    · rw [List.length_cons, List.length_cons, List.length_append, List.length_singleton]
      omega
end DL

/-! GW: a written pattern gone through sign by sign: the first place at which none goes on is the place that the reader tells (own work). -/
namespace DL
open PySem L2 PySem.W
/-- what may come next -/
inductive Md where
  | item | name | after | opn | caret | inname | next | close | space | bar | wrong
  deriving DecidableEq
def Md.s : Md → Str
  | .item => "item" | .name => "name" | .after => "after" | .opn => "open" | .caret => "caret" | .inname => "inname" | .next => "next" | .close => "close" | .space => "space" | .bar => "bar" | .wrong => "wrong"
/-- a sign goes on with a name of n signs -/
def inNm (c n : Nat) : Bool := decide (n < 8) && okC c
def itmM (c : Nat) (B : List Nat) : Md × List Nat :=
  if c ∈ letL then (.name, B) else if c = 40 then (.item, B ++ [0]) else if c = 46 then (.after, B) else if c = 91 then (.opn, B) else (.wrong, B)
def aftM (c : Nat) (B : List Nat) : Md × List Nat :=
  if c = 32 then (.space, B) else if c = 41 ∧ B ≠ [] then (if B.getLastD 0 = 0 then .close else .after, B.dropLast) else (.wrong, B)
def bracketM (m : Md) (c n : Nat) : Md :=
  if m = .inname ∧ (inNm c n = true ∨ c = 32 ∨ c = 93) then (if c = 32 then .next else if c = 93 then .after else .inname)
  else if m = .opn ∧ c = 94 then .caret else if m ≠ .inname ∧ c ∈ letL then .inname else .wrong
def goM (m : Md) (c n : Nat) (B : List Nat) : Md × List Nat :=
  if m = .opn ∨ m = .caret ∨ m = .inname ∨ m = .next then (bracketM m c n, B)
  else if m = .name ∧ inNm c n = true then (.name, B)
  else if m = .name ∨ m = .after then aftM c B
  else if m = .bar then (if c = 32 then .item else .wrong, B)
  else if m = .close then (if c = 42 ∨ c = 63 then .after else .wrong, B)
  else if m = .space ∧ c = 124 ∧ B ≠ [] ∧ B.getLastD 0 = 0 then (.bar, B.dropLast ++ [1])
  else itmM c B
/-- how many signs of a name there are -/
def cntM (m m' : Md) (n : Nat) : Nat := if (m' = .name ∨ m' = .inname) ∧ m = m' then n + 1 else 1
/-- the first place at which nothing goes on, if there is one -/
def plR : List Nat → Nat → Md → Nat → List Nat → Option Nat
  | [], i, m, _, B => if (m = .name ∨ m = .after) ∧ B = [] then none else some i
  | c :: r, i, m, n, B => if (goM m c n B).1 = .wrong then some i else plR r (i + 1) (goM m c n B).1 (cntM m (goM m c n B).1 n) (goM m c n B).2
section
variable {cs : List Nat}
/-- .. from a place on -/
def plA (cs : List Nat) (i : Nat) (m : Md) (n : Nat) (B : List Nat) : Option Nat := plR (cs.drop i) i m n B
theorem plA_at {i c : Nat} (h : cs[i]? = some c) (m : Md) (n : Nat) (B : List Nat) : plA cs i m n B = if (goM m c n B).1 = .wrong then some i else plA cs (i + 1) (goM m c n B).1 (cntM m (goM m c n B).1 n) (goM m c n B).2 := by
  obtain ⟨hl, e⟩ := List.getElem?_eq_some_iff.mp h
  unfold plA
  rw [List.drop_eq_getElem_cons hl, e]
  rfl
theorem plA_end {i : Nat} (h : cs[i]? = none) (m : Md) (n : Nat) (B : List Nat) : plA cs i m n B = if (m = .name ∨ m = .after) ∧ B = [] then none else some i := by
  unfold plA
  rw [List.drop_eq_nil_of_le (List.getElem?_eq_none_iff.mp h)]
  rfl
/-- the count matters within names alone -/
theorem plA_n {i n n' : Nat} {m : Md} {B : List Nat} (h1 : m ≠ .name) (h2 : m ≠ .inname) : plA cs i m n B = plA cs i m n' B := by
  cases h : cs[i]? with
  | none => rw [plA_end h, plA_end h]
  | some c =>
    have e : goM m c n B = goM m c n' B := by
      cases m <;> first | exact absurd rfl h1 | exact absurd rfl h2 | rfl
    have ec : ∀ m' : Md, cntM m m' n = cntM m m' n' := fun m' => by
      unfold cntM
      rw [if_neg, if_neg]
      · rintro ⟨z | z, rfl⟩
        · exact h1 z
        · exact h2 z
      · rintro ⟨z | z, rfl⟩
        · exact h1 z
        · exact h2 z
    rw [plA_at h, plA_at h, e, ec]
/-- a name is at its end: it has eight signs, or what comes is none of a name -/
def NmEnd (cs : List Nat) (e k : Nat) : Prop := ∀ c, cs[e]? = some c → inNm c k = false
theorem plA_name {e k : Nat} {B : List Nat} (h : NmEnd cs e k) : plA cs e .name k B = plA cs e .after 1 B := by
  cases hc : cs[e]? with
  | none =>
    rw [plA_end hc, plA_end hc]
    simp
  | some c =>
    have g : goM .name c k B = goM .after c 1 B := by
      unfold goM
      rw [if_neg (by decide), if_neg (by rw [h c hc]; rintro ⟨_, z⟩; cases z), if_pos (.inl rfl), if_neg (by decide), if_neg (by rintro ⟨z, _⟩; cases z), if_pos (.inr rfl)]
    have nn : (goM .after c 1 B).1 ≠ .name ∧ (goM .after c 1 B).1 ≠ .inname := by
      show (aftM c B).1 ≠ .name ∧ (aftM c B).1 ≠ .inname
      unfold aftM
      split
      · exact ⟨fun z => (by cases z), fun z => by cases z⟩
      · split
        · dsimp only
          split <;> exact ⟨fun z => (by cases z), fun z => by cases z⟩
        · exact ⟨fun z => (by cases z), fun z => by cases z⟩
    rw [plA_at hc, plA_at hc, g]
    have c1 : ∀ m : Md, ∀ n, cntM m (goM .after c 1 B).1 n = 1 := fun m n => if_neg fun z => z.1.elim nn.1 nn.2
    rw [c1, c1]
/-- signs of a name are gone through -/
theorem plA_run {m : Md} (hm : m = .name ∨ m = .inname) {B : List Nat} : ∀ {l post : List Nat} {i n : Nat}, cs.drop i = l ++ post → (∀ c ∈ l, okC c = true) → n + l.length ≤ 8 → (∀ c ∈ l, c ≠ 32 ∧ c ≠ 93) → plA cs i m n B = plA cs (i + l.length) m (n + l.length) B
  | [], post, i, n, _, _, _, _ => rfl
  | c :: l, post, i, n, h, hc, hl, h3 => by
    obtain ⟨h1, h2⟩ := dr1 (show cs.drop i = c :: (l ++ post) from h)
    rw [List.length_cons] at hl
    have i1 : inNm c n = true := by
      unfold inNm
      rw [decide_eq_true (by omega), hc c List.mem_cons_self]
      rfl
    have g : goM m c n B = (m, B) := by
      rcases hm with rfl | rfl
      · unfold goM
        rw [if_neg (by decide), if_pos ⟨rfl, i1⟩]
      · obtain ⟨n1, n2⟩ := h3 c List.mem_cons_self
        unfold goM bracketM
        rw [if_pos (by decide), if_pos ⟨rfl, .inl i1⟩, if_neg n1, if_neg n2]
    have nw : m ≠ .wrong := by rcases hm with rfl | rfl <;> decide
    have cn : cntM m m n = n + 1 := if_pos ⟨hm, rfl⟩
    rw [plA_at h1, g]
    show (if m = .wrong then _ else plA cs (i + 1) m (cntM m m n) B) = _
    rw [if_neg nw, cn, plA_run hm h2 (fun x hx => hc x (List.mem_cons_of_mem _ hx)) (by omega) (fun x hx => h3 x (List.mem_cons_of_mem _ hx)), List.length_cons]
    congr 1 <;> omega
theorem ok_no {c : Nat} (h : okC c = true) : c ≠ 32 ∧ c ≠ 93 := ⟨fun z => (by rw [z, ok32] at h; cases h), fun z => by rw [z, ok93] at h; cases h⟩
theorem runN_end : ∀ (n : Nat) (l : List Nat), runN n l < n → ∀ c, l[runN n l]? = some c → okC c = false
  | 0, l, h, _, _ => absurd h (Nat.not_lt_zero _)
  | n + 1, [], h, c, e => by cases e
  | n + 1, d :: r, h, c, e => by
    unfold runN at h e
    by_cases hd : okC d = true
    · rw [if_pos hd] at h e
      rw [List.getElem?_cons_succ] at e
      exact runN_end n r (by omega) c e
    · rw [if_neg hd] at e
      rw [List.getElem?_cons_zero] at e
      cases e
      exact Bool.eq_false_iff.mpr hd
theorem let_ok {c : Nat} (h : c ∈ letL) : okC c = true := by
  unfold okC
  rw [decide_eq_true h]
  rfl
/-- a name's signs, read: what the scan does on them from its first sign on -/
theorem plA_rdName {m m' : Md} {i e n : Nat} {x : Str} {B : List Nat} (hm : m' = .name ∨ m' = .inname) (h : rdName cs i = .ok (x, e)) (g : ∀ c ∈ letL, goM m c n B = (m', B)) (hmm : m ≠ m') : plA cs i m n B = plA cs e m' (e - i) B ∧ NmEnd cs e (e - i) ∧ i < e ∧ e - i ≤ 8 := by
  unfold rdName at h
  cases hc : cs[i]? with
  | none => rw [hc] at h; cases h
  | some c =>
    rw [hc] at h
    dsimp only at h
    by_cases hl : c ∈ letL
    · rw [if_pos hl] at h
      obtain ⟨_, rfl⟩ := Prod.mk.inj (Except.ok.inj h)
      obtain ⟨r1, r2⟩ := runN_le 7 (cs.drop (i + 1))
      have ro := runN_ok 7 (cs.drop (i + 1))
      have re := runN_end 7 (cs.drop (i + 1))
      generalize hk : runN 7 (cs.drop (i + 1)) = k at *
      have nw : m' ≠ .wrong := by rcases hm with rfl | rfl <;> decide
      have c1 : cntM m m' n = 1 := if_neg fun z => hmm z.2
      have run := plA_run (cs := cs) hm (B := B) (l := (cs.drop (i + 1)).take k) (post := (cs.drop (i + 1)).drop k) (i := i + 1) (n := 1) (List.take_append_drop _ _).symm ro (by rw [List.length_take]; omega) (fun c hc => ok_no (ro c hc))
      have lk : ((cs.drop (i + 1)).take k).length = k := by rw [List.length_take]; omega
      rw [lk] at run
      have ei : i + (k + 1) - i = 1 + k := by omega
      have ej : i + 1 + k = i + (k + 1) := by omega
      rw [ei]
      refine ⟨?_, fun d hd => ?_, by omega, by omega⟩
      · rw [plA_at hc, g c hl]
        show (if m' = .wrong then _ else plA cs (i + 1) m' (cntM m m' n) B) = _
        rw [if_neg nw, c1, run, ej]
      · unfold inNm
        by_cases h8 : 1 + k < 8
        · rw [re (by omega) d (by rw [List.getElem?_drop, ej]; exact hd), Bool.and_false]
        · rw [decide_eq_false h8]
          rfl
    · rw [if_neg hl] at h
      cases h
theorem rdName_err {i p : Nat} (h : rdName cs i = .error p) : p = i ∧ ∀ c, cs[i]? = some c → c ∉ letL := by
  unfold rdName at h
  cases hc : cs[i]? with
  | none =>
    rw [hc] at h
    cases h
    exact ⟨rfl, fun c z => by cases z⟩
  | some c =>
    rw [hc] at h
    dsimp only at h
    by_cases hl : c ∈ letL
    · rw [if_pos hl] at h
      cases h
    · rw [if_neg hl] at h
      cases h
      exact ⟨rfl, fun d z => by cases z; exact hl⟩
/-- within brackets: where no name begins, nothing goes on -/
theorem plA_brErr {m : Md} {i n : Nat} {B : List Nat} (hm : m = .caret ∨ m = .next ∨ m = .opn) (h : ∀ c, cs[i]? = some c → c ∉ letL ∧ (m = .opn → c ≠ 94)) : plA cs i m n B = some i := by
  cases hc : cs[i]? with
  | none =>
    rw [plA_end hc, if_neg]
    rintro ⟨z | z, _⟩ <;> subst z <;> rcases hm with z | z | z <;> cases z
  | some c =>
    obtain ⟨h1, h2⟩ := h c hc
    rw [plA_at hc, if_pos]
    have nin : m ≠ .inname := by rcases hm with rfl | rfl | rfl <;> decide
    unfold goM bracketM
    rw [if_pos (by rcases hm with z | z | z <;> simp [z])]
    dsimp only
    rw [if_neg fun z => nin z.1, if_neg fun z => h2 z.1 z.2, if_neg fun z => h1 z.2]
theorem br_name {m : Md} {n c : Nat} {B : List Nat} (hm : m = .caret ∨ m = .next ∨ m = .opn) (hc : c ∈ letL) : goM m c n B = (.inname, B) := by
  have nin : m ≠ .inname := by rcases hm with rfl | rfl | rfl <;> decide
  unfold goM bracketM
  rw [if_pos (by rcases hm with z | z | z <;> simp [z]), if_neg fun z => nin z.1, if_neg fun z => (let_ne hc).1 z.2, if_pos ⟨nin, hc⟩]
/-- the names of a bracket, from behind the first one -/
theorem plA_rdMore {B : List Nat} : ∀ (n : Nat) {acc : List Str} {i k : Nat} {r : Rdg (List Str)}, cs.length + 1 ≤ n + i → NmEnd cs i k → rdMore cs n acc i = r → match (generalizing := false) r with
    | .error p => plA cs i .inname k B = some p
    | .ok (_, e) => ∃ k', NmEnd cs e k' ∧ plA cs i .inname k B = plA cs e .inname k' B ∧ cs[e]? ≠ some 32
  | 0, acc, i, k, r, hl, he, h => by
    subst h
    exact ⟨k, he, rfl, by rw [List.getElem?_eq_none (by omega)]; simp⟩
  | n + 1, acc, i, k, r, hl, he, h => by
    unfold rdMore at h
    by_cases h32 : cs[i]? = some 32
    · rw [if_pos h32] at h
      have g : goM .inname 32 k B = (.next, B) := by
        unfold goM bracketM
        rw [if_pos (by decide), if_pos ⟨rfl, .inr (.inl rfl)⟩, if_pos rfl]
      have st : plA cs i .inname k B = plA cs (i + 1) .next 1 B := by
        rw [plA_at h32, g]
        rfl
      cases hn : rdName cs (i + 1) with
      | error p =>
        rw [hn] at h
        subst h
        obtain ⟨rfl, hno⟩ := rdName_err hn
        show plA cs i .inname k B = some (i + 1)
        rw [st]
        exact plA_brErr (.inr (.inl rfl)) fun c hc => ⟨hno c hc, fun z => by cases z⟩
      | ok z =>
        obtain ⟨x, e⟩ := z
        rw [hn] at h
        obtain ⟨q1, q2, q3, q4⟩ := plA_rdName (m := .next) (n := 1) (B := B) (.inr rfl) hn (fun c hc => br_name (.inr (.inl rfl)) hc) (by decide)
        have ih := plA_rdMore (B := B) n (i := e) (k := e - (i + 1)) (by omega) q2 h
        rw [st, q1]
        exact ih
    · rw [if_neg h32] at h
      subst h
      exact ⟨k, he, rfl, h32⟩
/-- a bracket, from behind its opening one -/
theorem plA_rdNames {i : Nat} {B : List Nat} {r : Rdg Tr} (h : rdNames cs i = r) : match (generalizing := false) r with
    | .error p => plA cs i .opn 1 B = some p
    | .ok (_, e) => plA cs i .opn 1 B = plA cs e .after 1 B := by
  have start : ∃ (m : Md) (j : Nat), (m = .caret ∨ m = .next ∨ m = .opn) ∧ j = (if cs[i]? = some 94 then i + 1 else i) ∧ plA cs i .opn 1 B = plA cs j m 1 B ∧ (m = .opn → cs[j]? ≠ some 94) := by
    by_cases h94 : cs[i]? = some 94
    · refine ⟨.caret, i + 1, .inl rfl, (if_pos h94).symm, ?_, fun z => by cases z⟩
      have g : goM .opn 94 1 B = (.caret, B) := by
        unfold goM bracketM
        rw [if_pos (by decide), if_neg (by rintro ⟨z, _⟩; cases z), if_pos ⟨rfl, rfl⟩]
      rw [plA_at h94, g]
      rfl
    · exact ⟨.opn, i, .inr (.inr rfl), (if_neg h94).symm, rfl, fun _ => h94⟩
  obtain ⟨m, j, hm, hj, st, hno⟩ := start
  unfold rdNames at h
  rw [← hj] at h
  cases hn : rdName cs j with
  | error p =>
    rw [hn] at h
    subst h
    obtain ⟨rfl, hnl⟩ := rdName_err hn
    show plA cs i .opn 1 B = some p
    rw [st]
    exact plA_brErr hm fun c hc => ⟨hnl c hc, fun z q => hno z (by rw [hc, q])⟩
  | ok z =>
    obtain ⟨x, e⟩ := z
    rw [hn] at h
    dsimp only at h
    have hmi : m ≠ .inname := by rcases hm with rfl | rfl | rfl <;> decide
    obtain ⟨q1, q2, q3, q4⟩ := plA_rdName (m := m) (n := 1) (B := B) (.inr rfl) hn (fun c hc => br_name hm hc) hmi
    have mo := plA_rdMore (B := B) (cs.length + 1) (acc := [x]) (i := e) (k := e - j) (by omega) q2 rfl
    cases hr : rdMore cs (cs.length + 1) [x] e with
    | error p =>
      rw [hr] at h mo
      subst h
      show plA cs i .opn 1 B = some p
      rw [st, q1]
      exact mo
    | ok z =>
      obtain ⟨ns, e2⟩ := z
      rw [hr] at h mo
      dsimp only at h
      obtain ⟨k', m1, m2, m3⟩ := mo
      by_cases h93 : cs[e2]? = some 93
      · rw [if_pos h93] at h
        subst h
        show plA cs i .opn 1 B = plA cs (e2 + 1) .after 1 B
        have g : goM .inname 93 k' B = (.after, B) := by
          unfold goM bracketM
          rw [if_pos (by decide), if_pos ⟨rfl, .inr (.inr rfl)⟩, if_neg (by decide), if_pos rfl]
        rw [st, q1, m2, plA_at h93, g]
        rfl
      · rw [if_neg h93] at h
        subst h
        show plA cs i .opn 1 B = some e2
        rw [st, q1, m2]
        cases hc : cs[e2]? with
        | none =>
          rw [plA_end hc, if_neg]
          rintro ⟨z | z, _⟩ <;> cases z
        | some c =>
          rw [plA_at hc, if_pos]
          unfold goM bracketM
          rw [if_pos (by decide), if_neg, if_neg (by rintro ⟨z, _⟩; cases z), if_neg (by rintro ⟨z, _⟩; exact z rfl)]
          rintro ⟨_, z | z | z⟩
          · rw [m1 c hc] at z; cases z
          · exact m3 (by rw [hc, z])
          · exact h93 (by rw [hc, z])
/-- what the scan does where the reader tells r -/
def Scn (cs : List Nat) (i : Nat) (B : List Nat) : Rdg Tr → Prop
  | .error p => plA cs i .item 1 B = some p
  | .ok (_, e) => plA cs i .item 1 B = plA cs e .after 1 B ∧ i < e ∧ e ≤ cs.length
/-- a reader and the scan agree -/
def AgR (cs : List Nat) (f : Nat → PR) : Prop := ∀ i B r, i ≤ cs.length → f i = some r → Scn cs i B r
/-- a group's reader, its bracket noted -/
def AgG (cs : List Nat) (f : Nat → PR) : Prop := ∀ i B r, i ≤ cs.length → f i = some r → match (generalizing := false) r with
  | .error p => plA cs i .item 1 (B ++ [0]) = some p
  | .ok (_, e) => plA cs i .item 1 (B ++ [0]) = plA cs e .after 1 B
theorem it_go {c : Nat} {n : Nat} {B : List Nat} : goM .item c n B = itmM c B := by
  unfold goM
  rw [if_neg (by decide), if_neg (by rintro ⟨z, _⟩; cases z), if_neg (by decide), if_neg (by decide), if_neg (by decide), if_neg (by rintro ⟨z, _⟩; cases z)]
theorem af_go {c : Nat} {n : Nat} {B : List Nat} : goM .after c n B = aftM c B := by
  unfold goM
  rw [if_neg (by decide), if_neg (by rintro ⟨z, _⟩; cases z), if_pos (.inr rfl)]
theorem sp_go {c : Nat} {n : Nat} {B : List Nat} (h : ¬ (c = 124 ∧ B ≠ [] ∧ B.getLastD 0 = 0)) : goM .space c n B = itmM c B := by
  unfold goM
  rw [if_neg (by decide), if_neg (by rintro ⟨z, _⟩; cases z), if_neg (by decide), if_neg (by decide), if_neg (by decide), if_neg fun z => h z.2]
theorem itm_item {c : Nat} {B : List Nat} : (itmM c B).1 ≠ .space ∧ (itmM c B).1 ≠ .inname := by
  unfold itmM
  split
  · exact ⟨fun z => (by cases z), fun z => by cases z⟩
  · split
    · exact ⟨fun z => (by cases z), fun z => by cases z⟩
    · split
      · exact ⟨fun z => (by cases z), fun z => by cases z⟩
      · split <;> exact ⟨fun z => (by cases z), fun z => by cases z⟩
/-- behind a blank an item may stand, where no bar does -/
theorem plA_space {i : Nat} {B : List Nat} (h : cs[i]? ≠ some 124) : plA cs i .space 1 B = plA cs i .item 1 B := by
  cases hc : cs[i]? with
  | none =>
    rw [plA_end hc, plA_end hc]
    simp
  | some c =>
    have g : goM .space c 1 B = goM .item c 1 B := by
      rw [it_go, sp_go]
      rintro ⟨rfl, _⟩
      exact h hc
    have cn : cntM .space (goM .item c 1 B).1 1 = cntM .item (goM .item c 1 B).1 1 := by
      rw [it_go]
      unfold cntM
      rw [if_neg, if_neg]
      · rintro ⟨z | z, q⟩
        · rw [z] at q; cases q
        · exact (itm_item).2 z
      · rintro ⟨z | z, q⟩
        · rw [z] at q; cases q
        · exact (itm_item).2 z
    rw [plA_at hc, plA_at hc, g, cn]
theorem ag_item {grp : Nat → PR} (hg : AgG cs grp) (good : GoodR cs grp) : AgR cs (rdItem grp cs) := fun i B r hi h => by
  have gi := rdItem_ok good
  have fin : ∀ {t : Tr} {e : Nat}, r = .ok (t, e) → plA cs i .item 1 B = plA cs e .after 1 B → Scn cs i B r := fun {t e} er hp => by
    subst er
    have ok := gi _ _ _ h
    exact ⟨hp, ok.lt, ok.le⟩
  have h0 := h
  unfold rdItem at h
  by_cases h46 : cs[i]? = some 46
  · rw [if_pos h46] at h
    obtain rfl := Option.some.inj h
    refine fin rfl ?_
    rw [plA_at h46, it_go]
    rfl
  rw [if_neg h46] at h
  by_cases h91 : cs[i]? = some 91
  · rw [if_pos h91] at h
    obtain rfl := Option.some.inj h
    have nm := plA_rdNames (cs := cs) (i := i + 1) (B := B) rfl
    have st : plA cs i .item 1 B = plA cs (i + 1) .opn 1 B := by
      rw [plA_at h91, it_go]
      rfl
    cases hr : rdNames cs (i + 1) with
    | error p =>
      rw [hr] at nm
      show plA cs i .item 1 B = some p
      rw [st]
      exact nm
    | ok z =>
      obtain ⟨t, e⟩ := z
      rw [hr] at nm fin
      exact fin rfl (st.trans nm)
  rw [if_neg h91] at h
  by_cases h40 : cs[i]? = some 40
  · rw [if_pos h40] at h
    have hl := (List.getElem?_eq_some_iff.mp h40).1
    have gr := hg (i + 1) B r hl h
    have st : plA cs i .item 1 B = plA cs (i + 1) .item 1 (B ++ [0]) := by
      rw [plA_at h40, it_go]
      rfl
    cases r with
    | error p =>
      show plA cs i .item 1 B = some p
      rw [st]
      exact gr
    | ok z => exact fin rfl (st.trans gr)
  rw [if_neg h40] at h
  cases hn : rdName cs i with
  | error p =>
    rw [hn] at h
    obtain rfl := Option.some.inj h
    obtain ⟨rfl, hno⟩ := rdName_err hn
    show plA cs p .item 1 B = some p
    cases hc : cs[p]? with
    | none =>
      rw [plA_end hc, if_neg]
      rintro ⟨z | z, _⟩ <;> cases z
    | some c =>
      rw [plA_at hc, it_go, if_pos]
      unfold itmM
      rw [if_neg (hno c hc), if_neg fun z => h40 (by rw [hc, z]), if_neg fun z => h46 (by rw [hc, z]), if_neg fun z => h91 (by rw [hc, z])]
  | ok z =>
    obtain ⟨x, e⟩ := z
    rw [hn] at h
    obtain rfl := Option.some.inj h
    obtain ⟨q1, q2, q3, q4⟩ := plA_rdName (m := .item) (n := 1) (B := B) (.inl rfl) hn (fun c hc => by rw [it_go]; exact if_pos hc) (by decide)
    exact fin rfl (q1.trans (plA_name q2))
/-- where a row ends no item follows -/
def RowEnd (cs : List Nat) (e : Nat) : Prop := ¬ (cs[e]? = some 32 ∧ cs[e + 1]? ≠ some 124)
theorem ag_rest {item : Nat → PR} (hi : AgR cs item) {i0 : Nat} {B : List Nat} : ∀ (n : Nat) {t : Tr} {i : Nat} {r : Rdg Tr}, i ≤ cs.length → i0 < i → rdRest item cs n t i = some r → match (generalizing := false) r with
    | .error p => plA cs i .after 1 B = some p
    | .ok (_, e) => plA cs i .after 1 B = plA cs e .after 1 B ∧ i0 < e ∧ e ≤ cs.length ∧ RowEnd cs e
  | 0, t, i, r, _, _, h => by cases h
  | n + 1, t, i, r, hl, h0, h => by
    unfold rdRest at h
    by_cases hc : cs[i]? = some 32 ∧ cs[i + 1]? ≠ some 124
    · rw [if_pos hc] at h
      have hil := (List.getElem?_eq_some_iff.mp hc.1).1
      have st : plA cs i .after 1 B = plA cs (i + 1) .item 1 B := by
        rw [plA_at hc.1, af_go]
        show plA cs (i + 1) .space _ B = _
        exact plA_space hc.2
      cases hn : item (i + 1) with
      | none => rw [hn] at h; cases h
      | some z =>
        have ag := hi (i + 1) B z hil hn
        rw [hn] at h
        cases z with
        | error p =>
          obtain rfl := Option.some.inj h
          show plA cs i .after 1 B = some p
          rw [st]
          exact ag
        | ok z =>
          obtain ⟨u, e⟩ := z
          obtain ⟨a1, a2, a3⟩ := ag
          have ih := ag_rest hi (i0 := i0) (B := B) n a3 (by omega) h
          rw [st, a1]
          exact ih
    · rw [if_neg hc] at h
      obtain rfl := Option.some.inj h
      exact ⟨rfl, h0, hl, hc⟩
theorem ag_row {item : Nat → PR} (hi : AgR cs item) {i : Nat} {B : List Nat} {r : Rdg Tr} (hl : i ≤ cs.length) (h : rdRow item cs i = some r) : match (generalizing := false) r with
    | .error p => plA cs i .item 1 B = some p
    | .ok (_, e) => plA cs i .item 1 B = plA cs e .after 1 B ∧ i < e ∧ e ≤ cs.length ∧ RowEnd cs e := by
  unfold rdRow at h
  cases hn : item i with
  | none => rw [hn] at h; cases h
  | some z =>
    have ag := hi i B z hl hn
    rw [hn] at h
    cases z with
    | error p =>
      obtain rfl := Option.some.inj h
      exact ag
    | ok z =>
      obtain ⟨u, e⟩ := z
      obtain ⟨a1, a2, a3⟩ := ag
      have := ag_rest hi (i0 := i) (B := B) (cs.length + 1) a3 a2 h
      rw [a1]
      exact this
theorem last_app (B : List Nat) (x : Nat) : (B ++ [x]).getLastD 0 = x ∧ (B ++ [x]).dropLast = B ∧ B ++ [x] ≠ [] := by
  refine ⟨?_, List.dropLast_concat, by simp⟩
  simp [List.getLastD_eq_getLast?]
/-- a closing bracket is wanted -/
theorem plA_close {e x : Nat} {B : List Nat} (h32 : cs[e]? ≠ some 32) (he : e ≤ cs.length) : match expC cs e [41] with
    | .error p => plA cs e .after 1 (B ++ [x]) = some p
    | .ok e1 => plA cs e .after 1 (B ++ [x]) = plA cs e1 (if x = 0 then .close else .after) 1 B := by
  obtain ⟨l1, l2, l3⟩ := last_app B x
  unfold expC
  by_cases h41 : cs[e]? = some 41
  · rw [if_pos h41]
    show plA cs e .after 1 (B ++ [x]) = plA cs (e + 1) _ 1 B
    have g : aftM 41 (B ++ [x]) = (if x = 0 then .close else .after, B) := by
      unfold aftM
      rw [if_neg (by decide), if_pos ⟨rfl, l3⟩, l1, l2]
    rw [plA_at h41, af_go, g]
    by_cases hx : x = 0
    · rw [if_pos hx]
      rfl
    · rw [if_neg hx]
      rfl
  · rw [if_neg h41]
    show plA cs e .after 1 (B ++ [x]) = some e
    cases hc : cs[e]? with
    | none =>
      rw [plA_end hc, if_neg]
      exact fun z => l3 z.2
    | some c =>
      rw [plA_at hc, af_go, if_pos]
      unfold aftM
      rw [if_neg fun z => h32 (by rw [hc, z]), if_neg fun z => h41 (by rw [hc, z.1])]
/-- a blank and a bar that may not stand there -/
theorem plA_bar {e : Nat} {B : List Nat} (h32 : cs[e]? = some 32) (he : RowEnd cs e) (hB : B = [] ∨ B.getLastD 0 ≠ 0) : plA cs e .after 1 B = some (e + 1) := by
  have h124 : cs[e + 1]? = some 124 := Classical.byContradiction fun z => he ⟨h32, z⟩
  rw [plA_at h32, af_go]
  show plA cs (e + 1) .space _ B = _
  rw [plA_at h124, sp_go (by rintro ⟨_, z1, z2⟩; exact hB.elim z1 fun q => q z2), if_pos]
  rfl
theorem ag_group (cs : List Nat) : ∀ d, AgG cs (rdGroup cs d)
  | 0 => fun i B r hi h => by cases h
  | d + 1 => fun i B r hi h => by
    have good := rdGroup_ok cs d
    have it := ag_item (ag_group cs d) good
    obtain ⟨l1, l2, l3⟩ := last_app B 0
    obtain ⟨k1, k2, k3⟩ := last_app B 1
    unfold rdGroup at h
    cases hn : rdRow (rdItem (rdGroup cs d) cs) cs i with
    | none => rw [hn] at h; cases h
    | some z =>
      have row := ag_row it (B := B ++ [0]) hi hn
      rw [hn] at h
      cases z with
      | error p =>
        obtain rfl := Option.some.inj h
        exact row
      | ok z =>
        obtain ⟨t, e⟩ := z
        obtain ⟨a1, a2, a3, a4⟩ := row
        dsimp only at h
        by_cases h32 : cs[e]? = some 32
        · rw [if_pos h32] at h
          have h124 : cs[e + 1]? = some 124 := Classical.byContradiction fun z => a4 ⟨h32, z⟩
          have st : plA cs i .item 1 (B ++ [0]) = plA cs (e + 2) .bar 1 (B ++ [1]) := by
            rw [a1, plA_at h32, af_go]
            show plA cs (e + 1) .space _ (B ++ [0]) = _
            rw [plA_at h124]
            have g : goM .space 124 1 (B ++ [0]) = (.bar, B ++ [1]) := by
              unfold goM
              rw [if_neg (by decide), if_neg (by rintro ⟨z, _⟩; cases z), if_neg (by decide), if_neg (by decide), if_neg (by decide), if_pos ⟨rfl, rfl, l3, l1⟩, l2]
            show (if (goM .space 124 1 (B ++ [0])).1 = .wrong then _ else plA cs (e + 2) (goM .space 124 1 (B ++ [0])).1 (cntM .space (goM .space 124 1 (B ++ [0])).1 1) (goM .space 124 1 (B ++ [0])).2) = _
            rw [g]
            rfl
          have x1 : expC cs e [32, 124, 32] = if cs[e + 2]? = some 32 then .ok (e + 3) else .error (e + 2) := by
            rw [expC_cons h32, expC_cons h124]
            rfl
          rw [x1] at h
          by_cases h2 : cs[e + 2]? = some 32
          · rw [if_pos h2] at h
            dsimp only at h
            have he3 := (List.getElem?_eq_some_iff.mp h2).1
            have st2 : plA cs i .item 1 (B ++ [0]) = plA cs (e + 3) .item 1 (B ++ [1]) := by
              rw [st, plA_at h2]
              rfl
            cases hn2 : rdRow (rdItem (rdGroup cs d) cs) cs (e + 3) with
            | none => rw [hn2] at h; cases h
            | some z =>
              have row2 := ag_row it (B := B ++ [1]) (show e + 3 ≤ cs.length by omega) hn2
              rw [hn2] at h
              cases z with
              | error p =>
                obtain rfl := Option.some.inj h
                show plA cs i .item 1 (B ++ [0]) = some p
                rw [st2]
                exact row2
              | ok z =>
                obtain ⟨u, e2⟩ := z
                obtain ⟨b1, b2, b3, b4⟩ := row2
                dsimp only at h
                by_cases q32 : cs[e2]? = some 32
                · have hb : behC cs e2 = e2 + 1 := if_pos q32
                  have q124 : cs[e2 + 1]? = some 124 := Classical.byContradiction fun z => b4 ⟨q32, z⟩
                  have x2 : expC cs (e2 + 1) [41] = .error (e2 + 1) := by
                    unfold expC
                    rw [if_neg (by rw [q124]; decide)]
                  rw [hb, x2] at h
                  obtain rfl := Option.some.inj h
                  show plA cs i .item 1 (B ++ [0]) = some (e2 + 1)
                  rw [st2, b1]
                  exact plA_bar q32 b4 (.inr (by rw [k1]; decide))
                · have hb : behC cs e2 = e2 := if_neg q32
                  rw [hb] at h
                  have cl := plA_close (cs := cs) (e := e2) (x := 1) (B := B) q32 b3
                  cases hx : expC cs e2 [41] with
                  | error p =>
                    rw [hx] at h cl
                    obtain rfl := Option.some.inj h
                    show plA cs i .item 1 (B ++ [0]) = some p
                    rw [st2, b1]
                    exact cl
                  | ok e3 =>
                    rw [hx] at h cl
                    obtain rfl := Option.some.inj h
                    show plA cs i .item 1 (B ++ [0]) = plA cs e3 .after 1 B
                    rw [st2, b1]
                    exact cl
          · rw [if_neg h2] at h
            obtain rfl := Option.some.inj h
            show plA cs i .item 1 (B ++ [0]) = some (e + 2)
            rw [st]
            cases hc : cs[e + 2]? with
            | none =>
              rw [plA_end hc, if_neg]
              rintro ⟨z | z, _⟩ <;> cases z
            | some c =>
              rw [plA_at hc, if_pos]
              unfold goM
              rw [if_neg (by decide), if_neg (by rintro ⟨z, _⟩; cases z), if_neg (by decide), if_pos rfl]
              show (if c = 32 then Md.item else .wrong) = .wrong
              rw [if_neg fun z => h2 (by rw [hc, z])]
        · rw [if_neg h32] at h
          have cl := plA_close (cs := cs) (e := e) (x := 0) (B := B) h32 a3
          cases hx : expC cs e [41] with
          | error p =>
            rw [hx] at h cl
            obtain rfl := Option.some.inj h
            show plA cs i .item 1 (B ++ [0]) = some p
            rw [a1]
            exact cl
          | ok e1 =>
            rw [hx] at h cl
            dsimp only at h
            have st : plA cs i .item 1 (B ++ [0]) = plA cs e1 .close 1 B := a1.trans cl
            have cg : ∀ {c : Nat}, goM .close c 1 B = (if c = 42 ∨ c = 63 then .after else .wrong, B) := fun {c} => by
              unfold goM
              rw [if_neg (by decide), if_neg (by rintro ⟨z, _⟩; cases z), if_neg (by decide), if_neg (by decide), if_pos rfl]
            by_cases h42 : cs[e1]? = some 42
            · rw [if_pos h42] at h
              obtain rfl := Option.some.inj h
              show plA cs i .item 1 (B ++ [0]) = plA cs (e1 + 1) .after 1 B
              rw [st, plA_at h42, cg]
              rfl
            · rw [if_neg h42] at h
              by_cases h63 : cs[e1]? = some 63
              · rw [if_pos h63] at h
                obtain rfl := Option.some.inj h
                show plA cs i .item 1 (B ++ [0]) = plA cs (e1 + 1) .after 1 B
                rw [st, plA_at h63, cg]
                rfl
              · rw [if_neg h63] at h
                obtain rfl := Option.some.inj h
                show plA cs i .item 1 (B ++ [0]) = some e1
                rw [st]
                cases hc : cs[e1]? with
                | none =>
                  rw [plA_end hc, if_neg]
                  rintro ⟨z | z, _⟩ <;> cases z
                | some c =>
                  rw [plA_at hc, cg, if_pos]
                  show (if c = 42 ∨ c = 63 then Md.after else .wrong) = .wrong
                  rw [if_neg]
                  rintro (z | z)
                  · exact h42 (by rw [hc, z])
                  · exact h63 (by rw [hc, z])
/-- the reader's place is the scan's -/
theorem rd_scan {d : Nat} {r : Except Nat Tr} (h : rdPat d cs = some r) : plR cs 0 .item 0 [] = match (generalizing := false) r with
    | .error p => some p
    | .ok _ => none := by
  have e0 : plR cs 0 .item 0 [] = plA cs 0 .item 1 [] := by
    have := plA_n (cs := cs) (i := 0) (n := 0) (n' := 1) (m := .item) (B := []) (by decide) (by decide)
    exact this
  rw [e0]
  unfold rdPat at h
  cases hn : rdRow (rdItem (rdGroup cs d) cs) cs 0 with
  | none => rw [hn] at h; cases h
  | some z =>
    have row := ag_row (ag_item (ag_group cs d) (rdGroup_ok cs d)) (B := []) (Nat.zero_le _) hn
    rw [hn] at h
    cases z with
    | error p =>
      obtain rfl := Option.some.inj h
      exact row
    | ok z =>
      obtain ⟨t, e⟩ := z
      obtain ⟨a1, a2, a3, a4⟩ := row
      dsimp only at h
      rw [a1]
      by_cases hl : e < cs.length
      · rw [if_pos hl] at h
        obtain rfl := Option.some.inj h
        show plA cs e .after 1 [] = some (behC cs e)
        by_cases h32 : cs[e]? = some 32
        · rw [show behC cs e = e + 1 from if_pos h32]
          exact plA_bar h32 a4 (.inl rfl)
        · rw [show behC cs e = e from if_neg h32]
          have hc : cs[e]? = some cs[e] := List.getElem?_eq_getElem hl
          rw [plA_at hc, af_go, if_pos]
          unfold aftM
          rw [if_neg fun z => h32 (by rw [hc, z]), if_neg fun z => z.2 rfl]
      · rw [if_neg hl] at h
        obtain rfl := Option.some.inj h
        show plA cs e .after 1 [] = none
        rw [plA_end (List.getElem?_eq_none (by omega)), if_pos ⟨.inr rfl, rfl⟩]
end
end DL

/-! GX: how deep and how large the tree is that is read from a text, by its blanks and opening brackets (own work). -/
namespace DL
open PySem L2 PySem.W
section
variable {cs : List Nat}
/-- how often a sign stands from a place on -/
def cnS (cs : List Nat) (x i : Nat) : Nat := (cs.drop i).count x
theorem cnS_at {i c : Nat} (h : cs[i]? = some c) (x : Nat) : cnS cs x i = cnS cs x (i + 1) + if c = x then 1 else 0 := by
  obtain ⟨hl, e⟩ := List.getElem?_eq_some_iff.mp h
  unfold cnS
  rw [List.drop_eq_getElem_cons hl, e, List.count_cons]
  simp
theorem cnS_le (x : Nat) {i j : Nat} (h : i ≤ j) : cnS cs x j ≤ cnS cs x i := by
  unfold cnS
  rw [show cs.drop j = (cs.drop i).drop (j - i) by rw [List.drop_drop]; congr 1; omega]
  exact (List.drop_sublist _ _).count_le _
/-- nodes of a tree -/
def nodT : Tr → Nat
  | .at _ _ => 1
  | .join a b => nodT a + nodT b + 1
  | .either a b => nodT a + nodT b + 1
  | .rep a => nodT a + 1
  | .opt a => nodT a + 1
/-- no atom has more names -/
def nmsN (n : Nat) : Tr → Prop
  | .at _ ns => ns.length ≤ n
  | .join a b => nmsN n a ∧ nmsN n b
  | .either a b => nmsN n a ∧ nmsN n b
  | .rep a => nmsN n a
  | .opt a => nmsN n a
/-- a thing read is no larger than its blanks and brackets say -/
structure SzR (cs : List Nat) (i e : Nat) (t : Tr) : Prop where
  nd : nodT t + 2 * cnS cs 32 e + cnS cs 40 e ≤ 1 + 2 * cnS cs 32 i + cnS cs 40 i
  dp : t.dep + cnS cs 32 e + cnS cs 40 e ≤ cnS cs 32 i + cnS cs 40 i
  nm : nmsN (cnS cs 32 0 + 1) t
def SzF (cs : List Nat) (f : Nat → PR) : Prop := ∀ i t e, f i = some (.ok (t, e)) → SzR cs i e t
/-- a group's: its bracket stands ahead of it -/
def SzG (cs : List Nat) (f : Nat → PR) : Prop := ∀ i t e, f i = some (.ok (t, e)) → nodT t + 2 * cnS cs 32 e + cnS cs 40 e ≤ 2 + 2 * cnS cs 32 i + cnS cs 40 i ∧ t.dep + cnS cs 32 e + cnS cs 40 e ≤ 1 + cnS cs 32 i + cnS cs 40 i ∧ nmsN (cnS cs 32 0 + 1) t
theorem rdMore_sz : ∀ {n : Nat} {ns ms : List Str} {i e : Nat}, rdMore cs n ns i = .ok (ms, e) → ms.length + cnS cs 32 e ≤ ns.length + cnS cs 32 i ∧ i ≤ e
  | 0, ns, ms, i, e, h => by
    obtain ⟨rfl, rfl⟩ := Prod.mk.inj (Except.ok.inj h)
    exact ⟨Nat.le_refl _, Nat.le_refl _⟩
  | n + 1, ns, ms, i, e, h => by
    unfold rdMore at h
    split at h
    · rename_i h32
      cases hn : rdName cs (i + 1) with
      | error p => rw [hn] at h; cases h
      | ok z =>
        obtain ⟨x, e1⟩ := z
        rw [hn] at h
        have a := (rdName_ok hn).1
        obtain ⟨b1, b2⟩ := rdMore_sz h
        rw [List.length_append, List.length_singleton] at b1
        have c := cnS_at h32 32
        rw [if_pos rfl] at c
        have d := cnS_le (cs := cs) 32 (show i + 1 ≤ e1 by omega)
        exact ⟨by omega, by omega⟩
    · obtain ⟨rfl, rfl⟩ := Prod.mk.inj (Except.ok.inj h)
      exact ⟨Nat.le_refl _, Nat.le_refl _⟩
theorem rdNames_sz {i e : Nat} {t : Tr} (h : rdNames cs i = .ok (t, e)) : SzR cs i e t := by
  have ok := rdNames_ok h
  have l := ok.lt
  unfold rdNames at h
  cases hn : rdName cs (if cs[i]? = some 94 then i + 1 else i) with
  | error p => rw [hn] at h; cases h
  | ok z =>
    obtain ⟨x, e1⟩ := z
    rw [hn] at h
    dsimp only at h
    cases hm : rdMore cs (cs.length + 1) [x] e1 with
    | error p => rw [hm] at h; cases h
    | ok z =>
      obtain ⟨ns, e2⟩ := z
      rw [hm] at h
      dsimp only at h
      split at h
      · obtain ⟨rfl, rfl⟩ := Prod.mk.inj (Except.ok.inj h)
        have c1 := cnS_le (cs := cs) 32 (Nat.le_of_lt l)
        have c2 := cnS_le (cs := cs) 40 (Nat.le_of_lt l)
        have sz := (rdMore_sz hm).1
        rw [List.length_singleton] at sz
        have c3 := cnS_le (cs := cs) 32 (Nat.zero_le e1)
        exact ⟨by show 1 + _ + _ ≤ _; omega, by show 0 + _ + _ ≤ _; omega, by show ns.length ≤ _; omega⟩
      · cases h
theorem rdItem_sz {grp : Nat → PR} (hg : SzG cs grp) (good : GoodR cs grp) : SzF cs (rdItem grp cs) := fun i t e h => by
  have ok := rdItem_ok good _ _ _ h
  have l := ok.lt
  have c1 := cnS_le (cs := cs) 32 (Nat.le_of_lt l)
  have c2 := cnS_le (cs := cs) 40 (Nat.le_of_lt l)
  unfold rdItem at h
  split at h
  · obtain ⟨rfl, rfl⟩ := Prod.mk.inj (Except.ok.inj (Option.some.inj h))
    exact ⟨by show 1 + _ + _ ≤ _; omega, by show 0 + _ + _ ≤ _; omega, Nat.zero_le _⟩
  · split at h
    · rename_i h91
      have z := rdNames_sz (Option.some.inj h)
      have a1 := cnS_le (cs := cs) 32 (show i ≤ i + 1 by omega)
      have a2 := cnS_le (cs := cs) 40 (show i ≤ i + 1 by omega)
      exact ⟨by have := z.nd; omega, by have := z.dp; omega, z.nm⟩
    · split at h
      · rename_i h40
        obtain ⟨z1, z2, z3⟩ := hg _ _ _ h
        have a1 := cnS_at h40 32
        have a2 := cnS_at h40 40
        rw [if_neg (by decide)] at a1
        rw [if_pos rfl] at a2
        exact ⟨by omega, by omega, z3⟩
      · cases hn : rdName cs i with
        | error p => rw [hn] at h; cases h
        | ok z =>
          obtain ⟨x, e1⟩ := z
          rw [hn] at h
          obtain ⟨rfl, rfl⟩ := Prod.mk.inj (Except.ok.inj (Option.some.inj h))
          exact ⟨by show 1 + _ + _ ≤ _; omega, by show 0 + _ + _ ≤ _; omega, by show 1 ≤ _; omega⟩
theorem rdRest_sz {item : Nat → PR} (hi : SzF cs item) {i0 : Nat} : ∀ {n : Nat} {t u : Tr} {i e : Nat}, rdRest item cs n t i = some (.ok (u, e)) → SzR cs i0 i t → SzR cs i0 e u
  | 0, t, u, i, e, h, _ => by cases h
  | n + 1, t, u, i, e, h, r => by
    unfold rdRest at h
    split at h
    · rename_i h32
      cases hn : item (i + 1) with
      | none => rw [hn] at h; cases h
      | some z =>
        rw [hn] at h
        cases z with
        | error p => cases h
        | ok z =>
          obtain ⟨v, e1⟩ := z
          have a := hi _ _ _ hn
          have b1 := cnS_at h32.1 32
          have b2 := cnS_at h32.1 40
          rw [if_pos rfl] at b1
          rw [if_neg (by decide)] at b2
          have n1 := r.nd
          have n2 := a.nd
          have d1 := r.dp
          have d2 := a.dp
          exact rdRest_sz hi h ⟨by show nodT t + nodT v + 1 + _ + _ ≤ _; omega, by show max t.dep v.dep + 1 + _ + _ ≤ _; omega, ⟨r.nm, a.nm⟩⟩
    · obtain ⟨rfl, rfl⟩ := Prod.mk.inj (Except.ok.inj (Option.some.inj h))
      exact r
theorem rdRow_sz {item : Nat → PR} (hi : SzF cs item) : SzF cs (rdRow item cs) := fun i t e h => by
  unfold rdRow at h
  cases hn : item i with
  | none => rw [hn] at h; cases h
  | some z =>
    rw [hn] at h
    cases z with
    | error p => cases h
    | ok z =>
      obtain ⟨v, e1⟩ := z
      exact rdRest_sz hi h (hi _ _ _ hn)
theorem rdGroup_sz (cs : List Nat) : ∀ d, SzG cs (rdGroup cs d)
  | 0 => fun i t e h => by cases h
  | d + 1 => fun i t e h => by
    have good := rdItem_ok (rdGroup_ok cs d)
    have rs := rdRow_sz (rdItem_sz (rdGroup_sz cs d) (rdGroup_ok cs d))
    have ro := rdRow_ok good
    have okk := rdGroup_ok cs (d + 1) i t e h
    unfold rdGroup at h
    cases hn : rdRow (rdItem (rdGroup cs d) cs) cs i with
    | none => rw [hn] at h; cases h
    | some z =>
      rw [hn] at h
      cases z with
      | error p => cases h
      | ok z =>
        obtain ⟨v, e1⟩ := z
        have a := rs _ _ _ hn
        have n1 := a.nd
        have d1 := a.dp
        dsimp only at h
        split at h
        · rename_i h32
          cases hx : expC cs e1 [32, 124, 32] with
          | error p => rw [hx] at h; cases h
          | ok e2 =>
            rw [hx] at h
            obtain ⟨x1, _⟩ := expC_ok hx
            have x1 : e2 = e1 + 3 := x1
            dsimp only at h
            cases hn2 : rdRow (rdItem (rdGroup cs d) cs) cs e2 with
            | none => rw [hn2] at h; cases h
            | some z =>
              rw [hn2] at h
              cases z with
              | error p => cases h
              | ok z =>
                obtain ⟨u, e3⟩ := z
                have b := rs _ _ _ hn2
                have n2 := b.nd
                have d2 := b.dp
                dsimp only at h
                cases hy : expC cs (behC cs e3) [41] with
                | error p => rw [hy] at h; cases h
                | ok e4 =>
                  rw [hy] at h
                  obtain ⟨rfl, rfl⟩ := Prod.mk.inj (Except.ok.inj (Option.some.inj h))
                  obtain ⟨y1, _⟩ := expC_ok hy
                  have y1 : e4 = behC cs e3 + 1 := y1
                  have bl := behC_le cs e3
                  have q1 := cnS_le (cs := cs) 32 (show e3 ≤ e4 by omega)
                  have q2 := cnS_le (cs := cs) 40 (show e3 ≤ e4 by omega)
                  have w1 := cnS_at h32 32
                  have w2 := cnS_at h32 40
                  rw [if_pos rfl] at w1
                  rw [if_neg (by decide)] at w2
                  have w3 := cnS_le (cs := cs) 32 (show e1 + 1 ≤ e2 by omega)
                  have w4 := cnS_le (cs := cs) 40 (show e1 + 1 ≤ e2 by omega)
                  exact ⟨by show nodT v + nodT u + 1 + _ + _ ≤ _; omega, by show max v.dep u.dep + 1 + _ + _ ≤ _; omega, ⟨a.nm, b.nm⟩⟩
        · cases hx : expC cs e1 [41] with
          | error p => rw [hx] at h; cases h
          | ok e2 =>
            rw [hx] at h
            obtain ⟨x1, _⟩ := expC_ok hx
            have x1 : e2 = e1 + 1 := x1
            dsimp only at h
            have q1 := cnS_le (cs := cs) 32 (show e1 ≤ e2 + 1 by omega)
            have q2 := cnS_le (cs := cs) 40 (show e1 ≤ e2 + 1 by omega)
            split at h
            · obtain ⟨rfl, rfl⟩ := Prod.mk.inj (Except.ok.inj (Option.some.inj h))
              exact ⟨by show nodT v + 1 + _ + _ ≤ _; omega, by show v.dep + 1 + _ + _ ≤ _; omega, a.nm⟩
            · split at h
              · obtain ⟨rfl, rfl⟩ := Prod.mk.inj (Except.ok.inj (Option.some.inj h))
                exact ⟨by show nodT v + 1 + _ + _ ≤ _; omega, by show v.dep + 1 + _ + _ ≤ _; omega, a.nm⟩
              · cases h
/-- a tree that is read is no larger than the blanks and brackets of its text say -/
theorem rdPat_sz {d : Nat} {t : Tr} (h : rdPat d cs = some (.ok t)) : nodT t ≤ 1 + 2 * cs.count 32 + cs.count 40 ∧ t.dep ≤ cs.count 32 + cs.count 40 ∧ nmsN (cs.count 32 + 1) t ∧ nmT t := by
  unfold rdPat at h
  cases hn : rdRow (rdItem (rdGroup cs d) cs) cs 0 with
  | none => rw [hn] at h; cases h
  | some z =>
    rw [hn] at h
    cases z with
    | error p => cases h
    | ok z =>
      obtain ⟨v, e⟩ := z
      have a := rdRow_sz (rdItem_sz (rdGroup_sz cs d) (rdGroup_ok cs d)) _ _ _ hn
      have b := rdRow_ok (rdItem_ok (rdGroup_ok cs d)) _ _ _ hn
      dsimp only at h
      split at h
      · cases h
      · cases h
        have n := a.nd
        have p := a.dp
        have e0 : ∀ x, cnS cs x 0 = cs.count x := fun x => by unfold cnS; rw [List.drop_zero]
        have q := a.nm
        rw [e0] at n p q
        rw [e0] at n p
        exact ⟨by omega, by omega, q, b.nm⟩
/-! ### the reader is deep enough -/
theorem rest_some {item : Nat → PR} (good : GoodR cs item) {m : Nat} (hi : ∀ i, cnS cs 40 i ≤ m → item i ≠ none) : ∀ (n : Nat) (t : Tr) (i : Nat), cs.length + 1 ≤ n + i → i ≤ cs.length → cnS cs 40 i ≤ m → rdRest item cs n t i ≠ none
  | 0, t, i, h1, h2, _ => absurd h1 (by omega)
  | n + 1, t, i, h1, h2, h3 => by
    unfold rdRest
    split
    · have c := cnS_le (cs := cs) 40 (show i ≤ i + 1 by omega)
      have ne := hi (i + 1) (by omega)
      cases hn : item (i + 1) with
      | none => exact absurd hn ne
      | some z =>
        cases z with
        | error p => exact fun z => by cases z
        | ok z =>
          obtain ⟨u, e⟩ := z
          have ok := good _ _ _ hn
          have l := ok.lt
          have c2 := cnS_le (cs := cs) 40 (show i ≤ e by omega)
          exact rest_some good hi n _ _ (by omega) ok.le (by omega)
    · exact fun z => by cases z
theorem row_some {item : Nat → PR} (good : GoodR cs item) {m : Nat} (hi : ∀ i, cnS cs 40 i ≤ m → item i ≠ none) {i : Nat} (h : cnS cs 40 i ≤ m) : rdRow item cs i ≠ none := by
  unfold rdRow
  have ne := hi i h
  cases hn : item i with
  | none => exact absurd hn ne
  | some z =>
    cases z with
    | error p => exact fun z => by cases z
    | ok z =>
      obtain ⟨u, e⟩ := z
      have ok := good _ _ _ hn
      have c2 := cnS_le (cs := cs) 40 (Nat.le_of_lt ok.lt)
      exact rest_some good hi _ _ _ (by omega) ok.le (by omega)
theorem item_some {d : Nat} (hg : ∀ i, cnS cs 40 i < d → rdGroup cs d i ≠ none) : ∀ i, cnS cs 40 i ≤ d → rdItem (rdGroup cs d) cs i ≠ none := fun i h => by
  unfold rdItem
  split
  · exact fun z => by cases z
  · split
    · exact fun z => by cases z
    · split
      · rename_i h40
        have c := cnS_at h40 40
        rw [if_pos rfl] at c
        exact hg _ (by omega)
      · cases rdName cs i with
        | error p => exact fun z => by cases z
        | ok z => exact fun z => by cases z
theorem group_some (cs : List Nat) : ∀ (d i : Nat), cnS cs 40 i < d → rdGroup cs d i ≠ none
  | 0, i, h => absurd h (Nat.not_lt_zero _)
  | d + 1, i, h => by
    have good := rdItem_ok (rdGroup_ok cs d)
    have its := item_some (group_some cs d)
    have h : cnS cs 40 i ≤ d := by omega
    have ne := row_some good its h
    unfold rdGroup
    cases hn : rdRow (rdItem (rdGroup cs d) cs) cs i with
    | none => exact absurd hn ne
    | some z =>
      cases z with
      | error p => exact fun z => by cases z
      | ok z =>
        obtain ⟨v, e1⟩ := z
        have ok := rdRow_ok good _ _ _ hn
        have l := ok.lt
        dsimp only
        split
        · cases hx : expC cs e1 [32, 124, 32] with
          | error p => exact fun z => by cases z
          | ok e2 =>
            obtain ⟨x1, _⟩ := expC_ok hx
            have x1 : e2 = e1 + 3 := x1
            dsimp only
            have c2 := cnS_le (cs := cs) 40 (show i ≤ e2 by omega)
            have ne2 := row_some good its (i := e2) (by omega)
            cases hn2 : rdRow (rdItem (rdGroup cs d) cs) cs e2 with
            | none => exact absurd hn2 ne2
            | some z =>
              cases z with
              | error p => exact fun z => by cases z
              | ok z =>
                dsimp only
                cases expC cs (behC cs z.2) [41] with
                | error p => exact fun z => by cases z
                | ok e4 => exact fun z => by cases z
        · cases expC cs e1 [41] with
          | error p => exact fun z => by cases z
          | ok e2 =>
            dsimp only
            split
            · exact fun z => by cases z
            · split <;> exact fun z => by cases z
/-- with no more opening brackets than it is deep the reader answers -/
theorem rdPat_some {d : Nat} (h : cs.count 40 ≤ d) : ∃ r, rdPat d cs = some r := by
  have c0 : cnS cs 40 0 ≤ d := by unfold cnS; rw [List.drop_zero]; exact h
  have ne := row_some (rdItem_ok (rdGroup_ok cs d)) (item_some (group_some cs d)) c0
  unfold rdPat
  cases hn : rdRow (rdItem (rdGroup cs d) cs) cs 0 with
  | none => exact absurd hn ne
  | some z =>
    cases z with
    | error p => exact ⟨_, rfl⟩
    | ok z =>
      obtain ⟨t, e⟩ := z
      dsimp only
      split
      · exact ⟨_, rfl⟩
      · exact ⟨_, rfl⟩
end
end DL

/-! GY: a dict of two texts written out (own work). -/
namespace DL
open PySem L2 PySem.W
section
variable {K : PySem.W.Frag} {ro : Ro} {ka k1 k2 k3 k4 : Cells} {tk tv tl tw : TE}
/-- {text: v, text: v} -/
theorem evn_disp2 {s t : Str} {d e : D} (hne : s ≠ t) (hk : EvD K tk ro ka (.val (.str s)) k1) (hv : EvD K tv ro k1 (.val d) k2) (hl : EvD K tl ro k2 (.val (.str t)) k3) (hw : EvD K tw ro k3 (.val e) k4) : EvN K (tDisp [(tk, tv), (tl, tw)]) ro ka (.dic [(.inr s, d), (.inr t, e)]) k4 := fun B F0 ta sg H Q e q => fun p hp => by
  obtain ⟨F, g, e⟩ := e
  have e1 : En K B F0 ro (ka ++ [(p, .dic [])]) ta sg (upd H p (.dK [])) := ⟨F, g, e.cell (o := .dK []) hp (n := .dic []) ⟨[], upd_same, rfl⟩⟩
  refine hk.fr [(p, .dic [])] B F0 ta sg _ _ e1 fun x H1 e2 => ?_
  have hx := e2.tm_str (v := x) (i := s) List.mem_cons_self
  subst hx
  refine hv.fr [(p, .dic [])] B F0 _ sg _ _ e2 fun y H2 e3 => ?_
  refine hl.fr [(p, .dic [])] B F0 _ sg _ _ e3 fun x2 H3 e4 => ?_
  have hx := e4.tm_str (v := x2) (i := t) List.mem_cons_self
  subst hx
  refine hw.fr [(p, .dic [])] B F0 _ sg _ _ e4 fun y2 H4 e5 => ?_
  have hj : (k4 ++ [(p, Nd.dic [])])[k4.length]? = some (p, Nd.dic []) := by simp
  obtain ⟨F2, g2, ef, xs, hx2, rx⟩ := e5.cellAt hj
  obtain rfl : xs = [] := rx
  have hvd := ef.tm (y, .val d) (by simp)
  have hve := ef.tm (y2, .val _) List.mem_cons_self
  refine ⟨hx2, [(.inr s, y), (.inr t, y2)], rfl, (by show 2 ≤ 15; decide), q p _ ⟨F2, g2, ?_⟩⟩
  have ek : mergeK [] [((.inr s : Key), y), (.inr t, y2)] = [(.inr s, y), (.inr t, y2)] := by
    show putK [((.inr s : Key), y)] (.inr t : Key) y2 = _
    unfold putK
    rw [if_neg (by simp [hne])]
    rfl
  rw [ek]
  have e6 := ef.write (o := .dK [(.inr s, y), (.inr t, y2)]) (n' := .dic [(.inr s, d), (.inr t, _)]) hj ⟨_, upd_same, ⟨y, _, rfl, hvd, y2, [], rfl, hve, rfl⟩⟩
  rw [List.set_append_right _ _ (Nat.le_refl _), Nat.sub_self] at e6
  exact e6.held fun p hp => List.mem_cons_of_mem _ (List.mem_cons_of_mem _ (List.mem_cons_of_mem _ (List.mem_cons_of_mem _ hp)))
end
end DL

/-! GZ: for i, c in enumerate(x), x a text: the library's GoesN over its Draws.text (own work). -/
namespace DL
open PySem L2 PySem.W PyProof.Rows
/-- each sign, with its number, in a new pair -/
def IteS (x : Str) : It where
  go i _ := i < x.cps.size
  yld i H v H' := ∃ T c, v = .ref T ∧ H T = none ∧ H' = upd H T (.tup [.int (i : Nat), .str ⟨#[c]⟩]) ∧ x.cps[i]? = some c
  stop i _ := x.cps.size ≤ i
/-- what stands at turn i -/
structure EnS (x : Str) (t : Tok) (e it : Addr) (i : Nat) (h : Heap) : Prop where
  en : ∃ old, IsEnum h e it (0 + (i : Int)) old
  itr : h.IsStrIter it (strIterType x) x t i
  apart : e ≠ it
theorem EnS.cells {x : Str} {t : Tok} {e it : Addr} {i : Nat} {h : Heap} (z : EnS x t e it i h) : ∀ b ∈ [e, it], ∃ o, h.get? b = some o ∧ ∀ v, o.data ≠ .cell v := by
  obtain ⟨⟨_, y⟩, ⟨o, q, _, d⟩, _⟩ := z
  intro b hb
  rcases List.mem_cons.mp hb with rfl | hb
  · exact ⟨_, y, fun _ c => nomatch c⟩
  · rw [List.mem_singleton.mp hb]
    exact ⟨o, q, fun _ c => nomatch d.symm.trans c⟩
theorem turn_enumS {P : Program} {w : World} {K : PySem.W.Frag} {es : List Expr} {k : Nat} {p : Pos} (x : Str) (t : Tok) (e it : Addr) : Turn P w K (.Tuple es k p) (IteS x) [e, it] e (EnS x t e it) where
  mem := List.mem_cons_self
  obj := fun _ _ z => z.cells
  keep := fun i h h' z same => ⟨z.en.imp fun _ y => same _ List.mem_cons_self _ y, (let ⟨o, ho, r⟩ := z.itr; ⟨o, same _ (List.mem_cons_of_mem _ List.mem_cons_self) _ ho, r⟩), z.apart⟩
  self := fun _ _ _ _ _ z q => z.en.elim fun _ y => wpAny_pyIter_enum y q
  item := by
    rintro X rfl rfl rfl hc i pins s σ H E I off z hi
    have D := Draws.text (prog := X.prog) (w := X.w) (A := X.A.in1) (I.ok.hd hc) it x t
    refine (GoesN.enumFrom (elts := es) (x1 := k) (pos := p) 0 D e z.apart (by simpa using z.apart) List.mem_cons_self).goes i s _ E hi ⟨z.en, z.itr⟩ ?_
    rintro _ h' tk ⟨T, t', y, rfl, hT, hy, made⟩ ⟨en', itr'⟩ kept _
    obtain ⟨c, u, hcx, rfl⟩ := hy
    rw [Int.zero_add] at made
    have le : ∀ {b : Addr}, b ∈ [e, it] → b ≠ T := fun {b} hb q =>
      let ⟨_, y, _⟩ := z.cells b hb
      Nat.lt_irrefl _ (Nat.lt_of_lt_of_le (q ▸ Heap.lt_size y) hT)
    have new : ObjOk X.prog X.w (upd H T (.tup [.int (i : Nat), .str ⟨#[c]⟩])) h' T (.tup [.int (i : Nat), .str ⟨#[c]⟩]) := ⟨Nat.le_of_ble_eq_true rfl, [.int i t', .str ⟨#[c]⟩ u], .cons ⟨t', rfl⟩ (.cons ⟨u, rfl⟩ .nil), made⟩
    exact ⟨.ref T, _, I.turnedNew kept off hT new, rfl, ⟨T, c, rfl, I.hok.fresh hT, rfl, hcx⟩, ⟨en', itr', z.apart⟩, fun b hb => (upd_ne (le hb)).trans (off b hb).1⟩
  done := by
    rintro X rfl rfl rfl hc i pins s σ H E I off z hx
    have none_ : x.cps[i]? = none := Array.getElem?_eq_none hx
    have D : Draws X.prog X.w X.A.in1 it [it] i (fun _ _ => True) (fun j h => j = i ∧ h.IsStrIter it (strIterType x) x t i) :=
      { live := fun _ _ z => let ⟨o, ho, _⟩ := z.2; ⟨o, ho⟩
        frame := fun j h h' z keep => ⟨z.1, let ⟨o, ho, r⟩ := z.2; ⟨o, keep it List.mem_cons_self _ ho, r⟩⟩
        item := fun j s Q E hj z _ => absurd z.1 (Nat.ne_of_lt hj)
        done := fun s Q E z hE => by
          have st := z.2
          cases ha : x.cps.all (· < 128)
          · simp only [strIterType, ha, Bool.false_eq_true, if_false] at st
            exact wpAny_nextOf_wide_end (I.ok.hd hc) st none_ hE
          · simp only [strIterType, ha, if_true] at st
            exact wpAny_nextOf_ascii_end (I.ok.hd hc) st none_ hE }
    obtain ⟨old, en⟩ := z.en
    obtain ⟨f0, f1, _, f3, f4, f5⟩ := off it (List.mem_cons_of_mem _ List.mem_cons_self)
    exact wpAny_pyNext_enum_endD D en ⟨rfl, z.itr⟩ fun h' kept => ⟨rfl, I.turned (t' := s.toks) (fun b o hb q => kept b o hb q) f0 f1 f3 f4 f5⟩
def iEnumS (ta : TA) : TI := fun σ H R => ta σ H fun vs H1 => ∃ x, vs = [.str x] ∧ R (IteS x) H1
theorem pi_enumS {X : Cx} {e : Expr} {ta : TA} {p pos tpos : Pos} {elts : List Expr} {kk : Nat} (hg : Gl X "enumerate") (hm : X.mg "enumerate" = none) (ha : PA X [e] ta) (hs : starEach [e] X.env = [(false, eval e X.env)] := by rfl) :
    PI X (.Tuple elts kk tpos) (.Call (.Name "enumerate" p) [e] [] pos) (iEnumS ta) where
  run pins s σ H R I h := by
    apply Call_ (ld_blt I hg hm boot_enumerate (callWith_type1 (thn (ha.run pos pins s σ H _ I h) ?_) hs rfl))
    rintro us s1 ⟨vs, H1, I1, rv, x, rfl, q⟩
    obtain ⟨_, rfl, hv⟩ := vals1 rv
    obtain ⟨t, rfl⟩ := hv
    refine enum_called (begins_text x t) trivial fun n h' hn en iter keep => wpAny_pyIter_enum en ?_
    have new_ : ∀ b, s1.heap.objs.size ≤ b → FpOk X pins H1 b := fun b ge => I1.fpOk ge (I1.hok.fresh ge)
    have ge_of : ∀ b ∈ [n + 1, n], FpOk X pins H1 b := List.forall_mem_cons.mpr ⟨new_ _ (Nat.le_succ_of_le (Nat.le_of_eq hn.symm)), List.forall_mem_singleton.mpr (new_ _ (Nat.le_of_eq hn.symm))⟩
    exact ⟨n + 1, [n + 1, n], EnS x t (n + 1) n, IteS x, H1, rfl, I1.kept (t' := s1.toks) keep, turn_enumS x t (n + 1) n,
      ⟨⟨_, en⟩, ⟨_, iter, rfl, rfl⟩, Nat.succ_ne_self n⟩,
      fun b hb => ge_of b hb, q⟩
section
variable {K : PySem.W.Frag} {ro : Ro} {ka k1 : Cells} {te : TE}
theorem ei_enumS {cs : Str} (h : EvD K te ro ka (.val (.str cs)) k1) : EvI K (iEnumS (tCons te tNil)) ro ka ((List.range cs.cps.toList.length).map fun i : Nat => W.val (.tup [.int (i : Int), .str ⟨#[cs.cps.toList.getD i 0]⟩])) (fun _ => True) k1 := fun B F0 ta sg H R e q =>
  h B F0 ta sg H _ e fun v H1 e1 => by
    have hv := e1.tm_str List.mem_cons_self
    subst hv
    refine ⟨cs, rfl, q _ ta H1 (fun p hp => hp) e1.pop (fun i w2 ro2 ka2 ta2 sg2 H2 hw _ hm e2 => ?_) fun i ro2 ka2 ta2 sg2 H2 hi _ hm e2 => ?_⟩
    · rw [List.getElem?_map] at hw
      obtain ⟨i', hi', rfl⟩ := Option.map_eq_some_iff.mp hw
      obtain ⟨hi1, hi2⟩ := List.getElem?_eq_some_iff.mp hi'
      rw [List.getElem_range] at hi2
      subst hi2
      rw [List.length_range] at hi1
      refine ⟨by show i < cs.cps.size; simpa using hi1, fun x H3 ⟨T, c, ex, hT, eH, hx⟩ => ?_⟩
      subst ex eH
      have hc : cs.cps.toList.getD i 0 = c := by
        rw [List.getD_eq_getElem?_getD, Array.getElem?_toList, hx]
        rfl
      obtain ⟨F, g, ef⟩ := e2
      obtain ⟨e4, g4⟩ := ef.lay (o := .tup [.int (i : Nat), .str ⟨#[c]⟩]) hT rfl
      refine ⟨_, g.trans g4, e4.push ⟨T, _, rfl, .inl (.inl upd_same), ?_⟩⟩
      rw [hc]
      exact ⟨_, _, rfl, rfl, _, [], rfl, rfl, rfl⟩
    · rw [List.length_map, List.length_range] at hi
      show cs.cps.size ≤ i
      simpa using hi
end
end DL

/-! HA: the text of a tree that was read is no larger than the text it was read from, by its blanks and brackets (own work). -/
namespace DL
open PySem L2 PySem.W
/-- blanks of a tree's text, at most -/
def blT : Tr → Nat
  | .at _ ns => ns.length - 1
  | .join a b => blT a + blT b + 1
  | .either a b => blT a + blT b + 2
  | .rep a => blT a
  | .opt a => blT a
/-- brackets of a tree's text -/
def paT : Tr → Nat
  | .at _ _ => 0
  | .join a b => paT a + paT b
  | .either a b => paT a + paT b + 1
  | .rep a => paT a + 1
  | .opt a => paT a + 1
theorem nmC_no {x : Str} (h : isNm x = true) {c : Nat} (hc : okC c = false) : x.cps.toList.count c = 0 := by
  obtain ⟨a, r, e, ha, -, hr⟩ := nmL_cons h
  refine List.count_eq_zero.mpr fun z => ?_
  have e : x.cps.toList = a :: r := e
  rw [e] at z
  rcases List.mem_cons.mp z with rfl | z
  · rw [let_ok ha] at hc; cases hc
  · rw [hr c z] at hc; cases hc
theorem nmsC_no {xs : List Str} (h : ∀ x ∈ xs, isNm x = true) : (nmsC xs).count 32 = xs.length ∧ (nmsC xs).count 40 = 0 := by
  induction xs with
  | nil => exact ⟨rfl, rfl⟩
  | cons x xs ih =>
    obtain ⟨a, b⟩ := ih fun y hy => h y (List.mem_cons_of_mem _ hy)
    have n1 := nmC_no (h x List.mem_cons_self) ok32
    have n2 := nmC_no (h x List.mem_cons_self) (c := 40) (by decide)
    rw [nmsC_cons, List.count_cons, List.count_cons, List.count_append, List.count_append, n1, n2, a, b, List.length_cons]
    exact ⟨by simp, by simp⟩
theorem jnC_no {xs : List Str} (h : ∀ x ∈ xs, isNm x = true) : (jnC xs).count 32 = xs.length - 1 ∧ (jnC xs).count 40 = 0 := by
  cases xs with
  | nil => exact ⟨rfl, rfl⟩
  | cons x xs =>
    obtain ⟨a, b⟩ := nmsC_no fun y hy => h y (List.mem_cons_of_mem _ hy)
    have n1 := nmC_no (h x List.mem_cons_self) ok32
    have n2 := nmC_no (h x List.mem_cons_self) (c := 40) (by decide)
    show (x.cps.toList ++ nmsC xs).count 32 = _ ∧ (x.cps.toList ++ nmsC xs).count 40 = _
    rw [List.count_append, List.count_append, n1, n2, a, b, List.length_cons]
    exact ⟨by omega, rfl⟩
theorem atC_no {m k : Bool} {ns : List Str} (h : ∀ x ∈ ns, isNm x = true) : (atC m k ns).count 32 ≤ ns.length - 1 ∧ (atC m k ns).count 40 = 0 := by
  obtain ⟨j1, j2⟩ := jnC_no h
  have br : ∀ c, c ≠ 91 → c ≠ 93 → (91 :: (jnC ns ++ [93])).count c = (jnC ns).count c := fun c h1 h2 => by
    rw [List.count_cons, List.count_append, List.count_singleton]
    simp [Ne.symm h1, Ne.symm h2]
  have br2 : ∀ c, c ≠ 91 → c ≠ 93 → c ≠ 94 → (91 :: 94 :: (jnC ns ++ [93])).count c = (jnC ns).count c := fun c h1 h2 h3 => by
    rw [List.count_cons, List.count_cons, List.count_append, List.count_singleton]
    simp [Ne.symm h1, Ne.symm h2, Ne.symm h3]
  unfold atC
  cases k with
  | true =>
    dsimp only
    split
    · rename_i h1
      obtain ⟨x, rfl⟩ : ∃ x, ns = [x] := by
        match ns, h1.1 with
        | [x], _ => exact ⟨x, rfl⟩
      have n1 := nmC_no (h x List.mem_cons_self) ok32
      have n2 := nmC_no (h x List.mem_cons_self) (c := 40) (by decide)
      exact ⟨by show x.cps.toList.count 32 ≤ _; omega, n2⟩
    · rw [br _ (by decide) (by decide), br _ (by decide) (by decide)]
      exact ⟨by omega, j2⟩
  | false =>
    dsimp only
    split
    · exact ⟨Nat.zero_le _, rfl⟩
    · rw [br2 _ (by decide) (by decide) (by decide), br2 _ (by decide) (by decide) (by decide)]
      exact ⟨by omega, j2⟩
theorem wr_len (m : Bool) (ns : List Str) : (wrN m ns).length ≤ ns.length := wrN_len m ns
/-- a tree's text: its blanks, brackets and length -/
theorem txC_sz {m : Bool} : ∀ {t : Tr}, nmT t → (txC m t).count 32 ≤ blT t ∧ (txC m t).count 40 = paT t ∧ (txC m t).length + 1 ≤ 13 * (blT t + 1) + 5 * paT t
  | .at k ns, h => by
    have hn : ∀ x ∈ wrN m ns, isNm x = true := fun x hx => h.1 x (wrN_mem.mp hx)
    obtain ⟨a, b⟩ := atC_no (m := m) (k := k) hn
    have c := atC_le (m := m) (k := k) hn
    have d := wr_len m ns
    refine ⟨by show (atC m k (wrN m ns)).count 32 ≤ ns.length - 1; omega, b, ?_⟩
    show (atC m k (wrN m ns)).length + 1 ≤ 13 * (ns.length - 1 + 1) + 5 * 0
    omega
  | .join a b, h => by
    obtain ⟨a1, a2, a3⟩ := txC_sz (m := m) h.1
    obtain ⟨b1, b2, b3⟩ := txC_sz (m := m) h.2
    show (txC m a ++ 32 :: txC m b).count 32 ≤ blT a + blT b + 1 ∧ (txC m a ++ 32 :: txC m b).count 40 = paT a + paT b ∧ (txC m a ++ 32 :: txC m b).length + 1 ≤ 13 * (blT a + blT b + 1 + 1) + 5 * (paT a + paT b)
    rw [List.count_append, List.count_append, List.count_cons, List.count_cons, List.length_append, List.length_cons]
    exact ⟨by simp; omega, by simp; omega, by omega⟩
  | .either a b, h => by
    obtain ⟨a1, a2, a3⟩ := txC_sz (m := m) h.1
    obtain ⟨b1, b2, b3⟩ := txC_sz (m := m) h.2
    show (40 :: (txC m a ++ 32 :: 124 :: 32 :: (txC m b ++ [41]))).count 32 ≤ blT a + blT b + 2 ∧ (40 :: (txC m a ++ 32 :: 124 :: 32 :: (txC m b ++ [41]))).count 40 = paT a + paT b + 1 ∧ (40 :: (txC m a ++ 32 :: 124 :: 32 :: (txC m b ++ [41]))).length + 1 ≤ 13 * (blT a + blT b + 2 + 1) + 5 * (paT a + paT b + 1)
    simp only [List.count_append, List.count_cons, List.length_append, List.length_cons, List.count_nil, List.length_nil]
    exact ⟨by simp; omega, by simp; omega, by omega⟩
  | .rep a, h => by
    obtain ⟨a1, a2, a3⟩ := txC_sz (m := m) (t := a) h
    show (40 :: (txC m a ++ [41, 42])).count 32 ≤ blT a ∧ (40 :: (txC m a ++ [41, 42])).count 40 = paT a + 1 ∧ (40 :: (txC m a ++ [41, 42])).length + 1 ≤ 13 * (blT a + 1) + 5 * (paT a + 1)
    simp only [List.count_append, List.count_cons, List.length_append, List.length_cons, List.count_nil, List.length_nil]
    exact ⟨by simp; omega, by simp; omega, by omega⟩
  | .opt a, h => by
    obtain ⟨a1, a2, a3⟩ := txC_sz (m := m) (t := a) h
    show (40 :: (txC m a ++ [41, 63])).count 32 ≤ blT a ∧ (40 :: (txC m a ++ [41, 63])).count 40 = paT a + 1 ∧ (40 :: (txC m a ++ [41, 63])).length + 1 ≤ 13 * (blT a + 1) + 5 * (paT a + 1)
    simp only [List.count_append, List.count_cons, List.length_append, List.length_cons, List.count_nil, List.length_nil]
    exact ⟨by simp; omega, by simp; omega, by omega⟩
theorem grT_pa : ∀ t : Tr, grT t ≤ paT t
  | .at _ _ => Nat.le_refl _
  | .join a b => by have := grT_pa a; have := grT_pa b; show max (grT a) (grT b) ≤ paT a + paT b; omega
  | .either a b => by have := grT_pa a; have := grT_pa b; show max (grT a) (grT b) + 1 ≤ paT a + paT b + 1; omega
  | .rep a => by have := grT_pa a; show grT a + 1 ≤ paT a + 1; omega
  | .opt a => by have := grT_pa a; show grT a + 1 ≤ paT a + 1; omega
section
variable {cs : List Nat}
/-- what is read takes its blanks and brackets out of the text -/
structure TkR (cs : List Nat) (i e : Nat) (t : Tr) : Prop where
  b : blT t + cnS cs 32 e ≤ cnS cs 32 i
  p : paT t + cnS cs 40 e ≤ cnS cs 40 i
def TkF (cs : List Nat) (f : Nat → PR) : Prop := ∀ i t e, f i = some (.ok (t, e)) → TkR cs i e t
def TkG (cs : List Nat) (f : Nat → PR) : Prop := ∀ i t e, f i = some (.ok (t, e)) → blT t + cnS cs 32 e ≤ cnS cs 32 i ∧ paT t + cnS cs 40 e ≤ cnS cs 40 i + 1
theorem rdNames_tk {i e : Nat} {t : Tr} (h : rdNames cs i = .ok (t, e)) : TkR cs i e t := by
  have ok := rdNames_ok h
  have l := ok.lt
  unfold rdNames at h
  cases hn : rdName cs (if cs[i]? = some 94 then i + 1 else i) with
  | error p => rw [hn] at h; cases h
  | ok z =>
    obtain ⟨x, e1⟩ := z
    have g0 := (rdName_ok hn).1
    have g00 := (rdName_ok hn).2.1
    rw [hn] at h
    dsimp only at h
    cases hm : rdMore cs (cs.length + 1) [x] e1 with
    | error p => rw [hm] at h; cases h
    | ok z =>
      obtain ⟨ns, e2⟩ := z
      rw [hm] at h
      dsimp only at h
      split at h
      · obtain ⟨rfl, rfl⟩ := Prod.mk.inj (Except.ok.inj h)
        have c2 := cnS_le (cs := cs) 40 (Nat.le_of_lt l)
        have sz := (rdMore_sz hm).1
        rw [List.length_singleton] at sz
        have g1 : i ≤ (if cs[i]? = some 94 then i + 1 else i) := by split <;> omega
        have c3 := cnS_le (cs := cs) 32 (show i ≤ e1 by omega)
        have c4 := cnS_le (cs := cs) 32 (show e2 ≤ e2 + 1 by omega)
        have one : [x].length ≤ ns.length := (rdMore_ok hm g00).2.2.2.1
        rw [List.length_singleton] at one
        exact ⟨by show ns.length - 1 + _ ≤ _; omega, by show 0 + _ ≤ _; omega⟩
      · cases h
theorem rdItem_tk {grp : Nat → PR} (hg : TkG cs grp) (good : GoodR cs grp) : TkF cs (rdItem grp cs) := fun i t e h => by
  have ok := rdItem_ok good _ _ _ h
  have l := ok.lt
  have c1 := cnS_le (cs := cs) 32 (Nat.le_of_lt l)
  have c2 := cnS_le (cs := cs) 40 (Nat.le_of_lt l)
  unfold rdItem at h
  split at h
  · obtain ⟨rfl, rfl⟩ := Prod.mk.inj (Except.ok.inj (Option.some.inj h))
    exact ⟨by show 0 + _ ≤ _; omega, by show 0 + _ ≤ _; omega⟩
  · split at h
    · have z := rdNames_tk (Option.some.inj h)
      have a1 := cnS_le (cs := cs) 32 (show i ≤ i + 1 by omega)
      have a2 := cnS_le (cs := cs) 40 (show i ≤ i + 1 by omega)
      exact ⟨by have := z.b; omega, by have := z.p; omega⟩
    · split at h
      · rename_i h40
        obtain ⟨z1, z2⟩ := hg _ _ _ h
        have a1 := cnS_le (cs := cs) 32 (show i ≤ i + 1 by omega)
        have a2 := cnS_at h40 40
        rw [if_pos rfl] at a2
        exact ⟨by omega, by omega⟩
      · cases hn : rdName cs i with
        | error p => rw [hn] at h; cases h
        | ok z =>
          obtain ⟨x, e1⟩ := z
          rw [hn] at h
          obtain ⟨rfl, rfl⟩ := Prod.mk.inj (Except.ok.inj (Option.some.inj h))
          exact ⟨by show 0 + _ ≤ _; omega, by show 0 + _ ≤ _; omega⟩
theorem rdRest_tk {item : Nat → PR} (hi : TkF cs item) {i0 : Nat} : ∀ {n : Nat} {t u : Tr} {i e : Nat}, rdRest item cs n t i = some (.ok (u, e)) → TkR cs i0 i t → TkR cs i0 e u
  | 0, t, u, i, e, h, _ => by cases h
  | n + 1, t, u, i, e, h, r => by
    unfold rdRest at h
    split at h
    · rename_i h32
      cases hn : item (i + 1) with
      | none => rw [hn] at h; cases h
      | some z =>
        rw [hn] at h
        cases z with
        | error p => cases h
        | ok z =>
          obtain ⟨v, e1⟩ := z
          have a := hi _ _ _ hn
          have b1 := cnS_at h32.1 32
          have b2 := cnS_at h32.1 40
          rw [if_pos rfl] at b1
          rw [if_neg (by decide)] at b2
          have n1 := r.b
          have n2 := a.b
          have d1 := r.p
          have d2 := a.p
          exact rdRest_tk hi h ⟨by show blT t + blT v + 1 + _ ≤ _; omega, by show paT t + paT v + _ ≤ _; omega⟩
    · obtain ⟨rfl, rfl⟩ := Prod.mk.inj (Except.ok.inj (Option.some.inj h))
      exact r
theorem rdRow_tk {item : Nat → PR} (hi : TkF cs item) : TkF cs (rdRow item cs) := fun i t e h => by
  unfold rdRow at h
  cases hn : item i with
  | none => rw [hn] at h; cases h
  | some z =>
    rw [hn] at h
    cases z with
    | error p => cases h
    | ok z =>
      obtain ⟨v, e1⟩ := z
      exact rdRest_tk hi h (hi _ _ _ hn)
theorem expC_at {i c : Nat} {l : List Nat} {e : Nat} (h : expC cs i (c :: l) = .ok e) : cs[i]? = some c ∧ expC cs (i + 1) l = .ok e := by
  unfold expC at h
  split at h
  · exact ⟨‹_›, h⟩
  · cases h
theorem rdGroup_tk (cs : List Nat) : ∀ d, TkG cs (rdGroup cs d)
  | 0 => fun i t e h => by cases h
  | d + 1 => fun i t e h => by
    have rs := rdRow_tk (rdItem_tk (rdGroup_tk cs d) (rdGroup_ok cs d))
    unfold rdGroup at h
    cases hn : rdRow (rdItem (rdGroup cs d) cs) cs i with
    | none => rw [hn] at h; cases h
    | some z =>
      rw [hn] at h
      cases z with
      | error p => cases h
      | ok z =>
        obtain ⟨v, e1⟩ := z
        have a := rs _ _ _ hn
        have n1 := a.b
        have d1 := a.p
        dsimp only at h
        split at h
        · rename_i h32
          cases hx : expC cs e1 [32, 124, 32] with
          | error p => rw [hx] at h; cases h
          | ok e2 =>
            rw [hx] at h
            obtain ⟨g1, hx1⟩ := expC_at hx
            obtain ⟨g2, hx2⟩ := expC_at hx1
            obtain ⟨g3, hx3⟩ := expC_at hx2
            have x1 : e1 + 1 + 1 + 1 = e2 := Except.ok.inj hx3
            dsimp only at h
            cases hn2 : rdRow (rdItem (rdGroup cs d) cs) cs e2 with
            | none => rw [hn2] at h; cases h
            | some z =>
              rw [hn2] at h
              cases z with
              | error p => cases h
              | ok z =>
                obtain ⟨u, e3⟩ := z
                have b := rs _ _ _ hn2
                have n2 := b.b
                have d2 := b.p
                dsimp only at h
                cases hy : expC cs (behC cs e3) [41] with
                | error p => rw [hy] at h; cases h
                | ok e4 =>
                  rw [hy] at h
                  obtain ⟨rfl, rfl⟩ := Prod.mk.inj (Except.ok.inj (Option.some.inj h))
                  obtain ⟨y1, _⟩ := expC_ok hy
                  have y1 : e4 = behC cs e3 + 1 := y1
                  have bl := behC_le cs e3
                  have q1 := cnS_le (cs := cs) 32 (show e3 ≤ e4 by omega)
                  have q2 := cnS_le (cs := cs) 40 (show e3 ≤ e4 by omega)
                  have w1 := cnS_at g1 32
                  have w2 := cnS_at g2 32
                  have w3 := cnS_at g3 32
                  rw [if_pos rfl] at w1 w3
                  rw [if_neg (by decide)] at w2
                  have w4 := cnS_le (cs := cs) 40 (show e1 ≤ e2 by omega)
                  rw [x1] at w3
                  exact ⟨by show blT v + blT u + 2 + _ ≤ _; omega, by show paT v + paT u + 1 + _ ≤ _; omega⟩
        · cases hx : expC cs e1 [41] with
          | error p => rw [hx] at h; cases h
          | ok e2 =>
            rw [hx] at h
            obtain ⟨x1, _⟩ := expC_ok hx
            have x1 : e2 = e1 + 1 := x1
            dsimp only at h
            have q1 := cnS_le (cs := cs) 32 (show e1 ≤ e2 + 1 by omega)
            have q2 := cnS_le (cs := cs) 40 (show e1 ≤ e2 + 1 by omega)
            split at h
            · obtain ⟨rfl, rfl⟩ := Prod.mk.inj (Except.ok.inj (Option.some.inj h))
              exact ⟨by show blT v + _ ≤ _; omega, by show paT v + 1 + _ ≤ _; omega⟩
            · split at h
              · obtain ⟨rfl, rfl⟩ := Prod.mk.inj (Except.ok.inj (Option.some.inj h))
                exact ⟨by show blT v + _ ≤ _; omega, by show paT v + 1 + _ ≤ _; omega⟩
              · cases h
/-- the text of a tree that was read: no more blanks, no more brackets -/
theorem rdPat_tk {d : Nat} {t : Tr} (h : rdPat d cs = some (.ok t)) : blT t ≤ cs.count 32 ∧ paT t ≤ cs.count 40 := by
  unfold rdPat at h
  cases hn : rdRow (rdItem (rdGroup cs d) cs) cs 0 with
  | none => rw [hn] at h; cases h
  | some z =>
    rw [hn] at h
    cases z with
    | error p => cases h
    | ok z =>
      obtain ⟨v, e⟩ := z
      have a := rdRow_tk (rdItem_tk (rdGroup_tk cs d) (rdGroup_ok cs d)) _ _ _ hn
      dsimp only at h
      split at h
      · cases h
      · cases h
        have n := a.b
        have p := a.p
        have e0 : ∀ x, cnS cs x 0 = cs.count x := fun x => by unfold cnS; rw [List.drop_zero]
        rw [e0] at n p
        exact ⟨by omega, by omega⟩
end
end DL

namespace K13
open PySem L2 DL PySem.W
structure Tx (K : PySem.W.Frag) (mg : Str → Option Value) (w : World) : Prop where
  n_tuple : mg "tuple" = none
  n_sorted : mg "sorted" = none
  n_str : mg "str" = none
  n_len : mg "len" = none
  g_atom_text : mg "atom_text" = some (.ref (He.ga K "atom_text")) ∧ keepIn K (.ref (He.ga K "atom_text")) = true
  g_in_order : mg "in_order" = some (.ref (He.ga K "in_order")) ∧ keepIn K (.ref (He.ga K "in_order")) = true
  g_text_of : mg "text_of" = some (.ref (He.ga K "text_of")) ∧ keepIn K (.ref (He.ga K "text_of")) = true
  g_sign_at : mg "sign_at" = some (.ref (He.ga K "sign_at")) ∧ keepIn K (.ref (He.ga K "sign_at")) = true
  g_BadText : mg "BadText" = some (.ref (He.ga K "BadText")) ∧ keepIn K (.ref (He.ga K "BadText")) = true
  v_LETTERS : ∃ u, mg "LETTERS" = some u ∧ RelV (.str "abcdefghijklmnopqrstuvwxyz") u
  v_DIGITS : ∃ u, mg "DIGITS" = some u ∧ RelV (.str "0123456789") u
  v_LONGEST : ∃ u, mg "LONGEST" = some u ∧ RelV (.int 8) u
  g_read_name : mg "read_name" = some (.ref (He.ga K "read_name")) ∧ keepIn K (.ref (He.ga K "read_name")) = true
  g_read_names : mg "read_names" = some (.ref (He.ga K "read_names")) ∧ keepIn K (.ref (He.ga K "read_names")) = true
  g_read_group : mg "read_group" = some (.ref (He.ga K "read_group")) ∧ keepIn K (.ref (He.ga K "read_group")) = true
  g_read_item : mg "read_item" = some (.ref (He.ga K "read_item")) ∧ keepIn K (.ref (He.ga K "read_item")) = true
  g_read_row : mg "read_row" = some (.ref (He.ga K "read_row")) ∧ keepIn K (.ref (He.ga K "read_row")) = true
  g_expect : mg "expect" = some (.ref (He.ga K "expect")) ∧ keepIn K (.ref (He.ga K "expect")) = true
  g_behind_row : mg "behind_row" = some (.ref (He.ga K "behind_row")) ∧ keepIn K (.ref (He.ga K "behind_row")) = true
  tg_ENDS : mg "ENDS" = some (.ref (He.ga K "ENDS"))
  tv_ENDS_0 : ∃ t, nsIn K (He.ga K "ENDS") "*" = some (some (.str "repeat" t))
  tv_ENDS_1 : ∃ t, nsIn K (He.ga K "ENDS") "?" = some (some (.str "option" t))
  mk_Pattern : Mk K (He.ga K "Pattern") (He.ma K (He.ga K "Pattern") "__init__")
  g_read_pattern : mg "read_pattern" = some (.ref (He.ga K "read_pattern")) ∧ keepIn K (.ref (He.ga K "read_pattern")) = true
  n_int : mg "int" = none
  g_law_take : mg "_law_take" = some (.ref (He.ga K "_law_take")) ∧ keepIn K (.ref (He.ga K "_law_take")) = true
  n_range : mg "range" = none
  g_law_drawn : mg "_law_drawn" = some (.ref (He.ga K "_law_drawn")) ∧ keepIn K (.ref (He.ga K "_law_drawn")) = true
  g_law_in_name : mg "_law_in_name" = some (.ref (He.ga K "_law_in_name")) ∧ keepIn K (.ref (He.ga K "_law_in_name")) = true
  g_law_bracket : mg "_law_bracket" = some (.ref (He.ga K "_law_bracket")) ∧ keepIn K (.ref (He.ga K "_law_bracket")) = true
  g_law_after : mg "_law_after" = some (.ref (He.ga K "_law_after")) ∧ keepIn K (.ref (He.ga K "_law_after")) = true
  g_law_item : mg "_law_item" = some (.ref (He.ga K "_law_item")) ∧ keepIn K (.ref (He.ga K "_law_item")) = true
  n_enumerate : mg "enumerate" = none
  g_law_goes : mg "_law_goes" = some (.ref (He.ga K "_law_goes")) ∧ keepIn K (.ref (He.ga K "_law_goes")) = true
  cm_Pattern_read : CMetC K (He.ga K "Pattern") "read"
  g_Pattern : mg "Pattern" = some (.ref (He.ga K "Pattern")) ∧ keepIn K (.ref (He.ga K "Pattern")) = true
  cl_Pattern : Cls K (He.ga K "Pattern")
  pr_Pattern_text : PropOf K (He.ga K "Pattern") "text" (He.ma K (He.ga K "Pattern") "text") (pga K (He.ga K "Pattern") "text")
  xc_BadText : Xc K (He.ga K "BadText")
  xn_BadText_place : findIn K (.ref (He.ga K "BadText")) "place" = some none
  g_law_pool : mg "_law_pool" = some (.ref (He.ga K "_law_pool")) ∧ keepIn K (.ref (He.ga K "_law_pool")) = true
  g_law_cell : mg "_law_cell" = some (.ref (He.ga K "_law_cell")) ∧ keepIn K (.ref (He.ga K "_law_cell")) = true
  g_law_names : mg "_law_names" = some (.ref (He.ga K "_law_names")) ∧ keepIn K (.ref (He.ga K "_law_names")) = true
  g_law_spoiled : mg "_law_spoiled" = some (.ref (He.ga K "_law_spoiled")) ∧ keepIn K (.ref (He.ga K "_law_spoiled")) = true
  g_law_place : mg "_law_place" = some (.ref (He.ga K "_law_place")) ∧ keepIn K (.ref (He.ga K "_law_place")) = true
  g_law_told : mg "_law_told" = some (.ref (He.ga K "_law_told")) ∧ keepIn K (.ref (He.ga K "_law_told")) = true
  n_isinstance : mg "isinstance" = none
  n_list : mg "list" = none
  xi_BadText : findIn K (.ref (He.ga K "BadText")) "__init__" = some (some (.ref (He.ma K (He.ga K "BadText") "__init__"))) ∧ typeIn K (.ref (He.ma K (He.ga K "BadText") "__init__")) = some (.type "function")
  g_law : mg "law" = some (.ref (He.ga K "law")) ∧ keepIn K (.ref (He.ga K "law")) = true
  na_Pattern_tree : NoAttr K (He.ga K "Pattern") "tree"
  ex_BadText_BadText : exmOne K (.ref (He.ga K "BadText")) (.ref (He.ga K "BadText")) = some true
  tab_ENDS : TabS K w (He.ga K "ENDS") [("*", "repeat"), ("?", "option")]
  d_in_order : ∃ fd, FunD K "in_order" "in_order" (defArgs s_in_order) (defBody s_in_order) (defScope s_in_order) [] [] (He.ga K "in_order") fd
  d_atom_text : ∃ fd, FunD K "atom_text" "atom_text" (defArgs s_atom_text) (defBody s_atom_text) (defScope s_atom_text) [] [] (He.ga K "atom_text") fd
  d_text_of : ∃ fd, FunD K "text_of" "text_of" (defArgs s_text_of) (defBody s_text_of) (defScope s_text_of) [] [] (He.ga K "text_of") fd
  d_Pattern___init : ∃ fd, FunD K "__init__" "Pattern.__init__" (defArgs s_Pattern___init) (defBody s_Pattern___init) (defScope s_Pattern___init) [] [] (He.ma K (He.ga K "Pattern") "__init__") fd
  d_Pattern_text : ∃ fd, FunD K "text" "Pattern.text" (defArgs s_Pattern_text) (defBody s_Pattern_text) (defScope s_Pattern_text) [] [] (pga K (He.ga K "Pattern") "text") fd
  d_sign_at : ∃ fd, FunD K "sign_at" "sign_at" (defArgs s_sign_at) (defBody s_sign_at) (defScope s_sign_at) [] [] (He.ga K "sign_at") fd
  d_expect : ∃ fd, FunD K "expect" "expect" (defArgs s_expect) (defBody s_expect) (defScope s_expect) [] [] (He.ga K "expect") fd
  d_behind_row : ∃ fd, FunD K "behind_row" "behind_row" (defArgs s_behind_row) (defBody s_behind_row) (defScope s_behind_row) [] [] (He.ga K "behind_row") fd
  d_read_name : ∃ fd, FunD K "read_name" "read_name" (defArgs s_read_name) (defBody s_read_name) (defScope s_read_name) [] [] (He.ga K "read_name") fd
  d_read_names : ∃ fd, FunD K "read_names" "read_names" (defArgs s_read_names) (defBody s_read_names) (defScope s_read_names) [] [] (He.ga K "read_names") fd
  d_read_item : ∃ fd, FunD K "read_item" "read_item" (defArgs s_read_item) (defBody s_read_item) (defScope s_read_item) [] [] (He.ga K "read_item") fd
  d_read_row : ∃ fd, FunD K "read_row" "read_row" (defArgs s_read_row) (defBody s_read_row) (defScope s_read_row) [] [] (He.ga K "read_row") fd
  d_read_group : ∃ fd, FunD K "read_group" "read_group" (defArgs s_read_group) (defBody s_read_group) (defScope s_read_group) [] [] (He.ga K "read_group") fd
  d_read_pattern : ∃ fd, FunD K "read_pattern" "read_pattern" (defArgs s_read_pattern) (defBody s_read_pattern) (defScope s_read_pattern) [] [] (He.ga K "read_pattern") fd
  d_Pattern_read : ∃ fd, FunD K "read" "Pattern.read" (defArgs s_Pattern_read) (defBody s_Pattern_read) (defScope s_Pattern_read) [] [] (cga K (He.ga K "Pattern") "read") fd
  d_law_cell : ∃ fd, FunD K "_law_cell" "_law_cell" (defArgs s_law_cell) (defBody s_law_cell) (defScope s_law_cell) [] [] (He.ga K "_law_cell") fd
  d_law_pool : ∃ fd, FunD K "_law_pool" "_law_pool" (defArgs s_law_pool) (defBody s_law_pool) (defScope s_law_pool) [] [] (He.ga K "_law_pool") fd
  d_law_take : ∃ fd, FunD K "_law_take" "_law_take" (defArgs s_law_take) (defBody s_law_take) (defScope s_law_take) [] [] (He.ga K "_law_take") fd
  d_law_names : ∃ fd, FunD K "_law_names" "_law_names" (defArgs s_law_names) (defBody s_law_names) (defScope s_law_names) [] [] (He.ga K "_law_names") fd
  d_law_drawn : ∃ fd, FunD K "_law_drawn" "_law_drawn" (defArgs s_law_drawn) (defBody s_law_drawn) (defScope s_law_drawn) [] [] (He.ga K "_law_drawn") fd
  d_law_in_name : ∃ fd, FunD K "_law_in_name" "_law_in_name" (defArgs s_law_in_name) (defBody s_law_in_name) (defScope s_law_in_name) [] [] (He.ga K "_law_in_name") fd
  d_law_item : ∃ fd, FunD K "_law_item" "_law_item" (defArgs s_law_item) (defBody s_law_item) (defScope s_law_item) [] [] (He.ga K "_law_item") fd
  d_law_after : ∃ fd, FunD K "_law_after" "_law_after" (defArgs s_law_after) (defBody s_law_after) (defScope s_law_after) [] [] (He.ga K "_law_after") fd
  d_law_bracket : ∃ fd, FunD K "_law_bracket" "_law_bracket" (defArgs s_law_bracket) (defBody s_law_bracket) (defScope s_law_bracket) [] [] (He.ga K "_law_bracket") fd
  d_law_goes : ∃ fd, FunD K "_law_goes" "_law_goes" (defArgs s_law_goes) (defBody s_law_goes) (defScope s_law_goes) [] [] (He.ga K "_law_goes") fd
  d_law_place : ∃ fd, FunD K "_law_place" "_law_place" (defArgs s_law_place) (defBody s_law_place) (defScope s_law_place) [] [] (He.ga K "_law_place") fd
  d_law_spoiled : ∃ fd, FunD K "_law_spoiled" "_law_spoiled" (defArgs s_law_spoiled) (defBody s_law_spoiled) (defScope s_law_spoiled) [] [] (He.ga K "_law_spoiled") fd
  d_law_told : ∃ fd, FunD K "_law_told" "_law_told" (defArgs s_law_told) (defBody s_law_told) (defScope s_law_told) [] [] (He.ga K "_law_told") fd
  d_law : ∃ fd, FunD K "law" "law" (defArgs s_law) (defBody s_law) (defScope s_law) [] [] (He.ga K "law") fd
  d_BadText___init : ∃ fd, FunD K "__init__" "BadText.__init__" (defArgs s_BadText___init) (defBody s_BadText___init) (defScope s_BadText___init) [] [] (He.ma K (He.ga K "BadText") "__init__") fd
section
variable {P : Program} {w : World} {K : PySem.W.Frag} {mg : Str → Option Value} {base : Heap}
end
def ct_in_order (K : PySem.W.Frag) : Ct := Ct1 fun a ka out => ∃ t b ss, Lk ka a t (stD ss) b ∧ ss.length < 64 ∧ out = Rt (.tup (stD (inOrd ss))) ka
section
variable {P : Program} {w : World} {K : PySem.W.Frag} {mg : Str → Option Value} {base : Heap}
theorem ok_in_order (T : Tx K mg w) : Fn P w K mg base 4 (He.ga K "in_order") ["names"] (ct_in_order K) := by
  obtain ⟨fd, F⟩ := T.d_in_order
  refine fn_ok F sc_in_order (fun _ _ _ _ _ _ us hl => match us, hl with | [_], _ => rfl) ct1_len (fun cdv A outer s H E hr => ⟨_, (pss_cons (ps_setDc (i := 2) (tk := (tVar 1)) (tv := (tC (.bl true))) (tt := tYes) (own := [("name", 1)]) rfl sc_in_order.nd rfl rfl rfl (pi_seq (pv 0)) (blk_ok ["names", "name", "known"] (defScope s_in_order) rfl rfl (by decide +kernel)) (fun _ _ _ _ _ => (pg_name (i := 1) sc_in_order.nd rfl (by first | exact Or.inl rfl | exact Or.inr rfl))) (fun _ _ _ _ _ => pts_nil) (fun _ _ _ _ _ => (pv 1)) (fun _ _ _ _ _ => pe_bl))
      (pss_one (ps_ret (pe_callTy call_tupU rfl T.n_tuple (by decide +kernel) (pa_cons (pe_callB cr_sortedS rfl T.n_sorted (by decide +kernel) (pa_cons (pe_lock (pe_lc (te := (tCB rStrS (tCons (tVar 1) tNil))) (tt := tYes) (own := [("name", 1)]) rfl sc_in_order.nd (pi_keys (pv 2)) (blk_ok ["names", "name", "known"] (defScope s_in_order) rfl rfl (by decide +kernel)) (fun _ _ _ _ _ => (pg_name (i := 1) sc_in_order.nd rfl (by first | exact Or.inl rfl | exact Or.inr rfl))) (fun _ _ _ _ _ => pts_nil) (fun _ _ _ _ _ => (pe_callTy call_strS rfl T.n_str (by decide +kernel) (pa_cons (pv 1) pa_nil))))) pa_nil)) pa_nil))))), fun ws ka out B F0 Q hC hR hX => ?_⟩)
  obtain ⟨a, rfl, t, b, ss, l, hz, rfl⟩ := hC
  refine q_asgNR (evr_dc (ei_seq (ev_var rfl) l) (by decide) (by rw [List.length_map, stD_len]; omega) (fun i acc k => k = ka ∧ acc = tabS (dedS (ss.take i))) ⟨rfl, rfl⟩ (fun i acc k h => ⟨h.1 ▸ l.stay, fun x => h.1 ▸ l.app.stay⟩) (fun i w acc k hw ⟨e1, e2⟩ => ?_)) ?_
  · subst e1 e2
    rw [List.getElem?_map] at hw
    cases hs : ss[i]? with
    | none => rw [show (stD ss)[i]? = none by unfold stD; rw [List.getElem?_map, hs]; rfl] at hw; cases hw
    | some s =>
      rw [stD_get hs] at hw
      cases hw
      rw [part_of (sqf_stD b ss) (List.mem_of_getElem? (stD_get hs))]
      refine .inr ⟨_, _, _, .inr s, .bl true, et_yes, ev_var rfl, ev_bl, rfl, ?_⟩
      rw [tabS_put, take_succ_some hs, dedS_snoc]
  · rintro n k1 a1 ⟨acc, rfl, rfl, rfl⟩
    rw [List.length_map, stD_len, List.take_length]
    have hl := dedS_len ss
    refine g_ret hR ((ev_cb (ea1 (evn_srt (b := false) (ss := dedS ss) (evn_lock (j := k1.length) (a := a1) (ds := tabS (dedS ss)) (k1 := k1 ++ [(a1, .dic (tabS (dedS ss)))]) (n := .lst (stD (dedS ss))) (get_last _ _) (get_last _ _) (fun o xs => ?_)).lst .vl (by omega)).lst) (rc_tupL .vl (.inl rfl))).less (List.sublist_append_left _ _)) ⟨rfl, rfl⟩
    rw [set_last]
    have hm := evn_map (K := K) (te := tCB rStrS (tCons (tVar 1) tNil)) (xs := dedS ss) (g := fun s => W.val (.str s)) (f := fun s => D.str s) (j := 1) (vs := [1]) (ro := [some a, none, some (.val (.adr a1))]) (ka := k1 ++ [(a1, .ldic o xs (tabS (dedS ss)))]) (k1 := k1 ++ [(a1, .ldic o xs (tabS (dedS ss)))]) (C := fun k => (a1, Nd.ldic o xs (tabS (dedS ss))) ∈ k) (wi := iKeys (tVar 2)) ?_ (by decide) (by omega) ⟨by simp, fun x => by simp⟩ (fun s hs => ev_strS (ev_var rfl))
    · exact hm
    · have := ei_keys (K := K) (te := tVar 2) (ro := [some a, none, some (.val (.adr a1))]) (ka := k1 ++ [(a1, .ldic o xs (tabS (dedS ss)))]) (k1 := k1 ++ [(a1, .ldic o xs (tabS (dedS ss)))]) (a := a1) (o := o) (xs := xs) (ds := tabS (dedS ss)) (ev_var rfl) (by simp)
      unfold tabS at this ⊢
      rw [List.map_map] at this
      exact this
end
/-- the text of an atom -/
def atX (k : Bool) (ns : List Str) : Str :=
  if k then (if ns.length = 1 then ns.getD 0 "" else glue Str.empty ["[", Txt.join " " ns, "]"]) else (if ns = [] then "." else glue Str.empty ["[^", Txt.join " " ns, "]"])
theorem join_len {ns : List Str} (h : ∀ n ∈ ns, isNm n = true) : (Txt.join " " ns).length ≤ 9 * ns.length ∧ (ns.map (·.length)).sum ≤ 8 * ns.length := by
  have s : (ns.map (·.length)).sum ≤ 8 * ns.length := by
    induction ns with
    | nil => exact Nat.le_refl _
    | cons n ns ih =>
      have := isNm_len (h n List.mem_cons_self)
      have := ih fun x hx => h x (List.mem_cons_of_mem _ hx)
      rw [List.map_cons, List.sum_cons, List.length_cons]
      omega
  have j := StrLaws.join_length_le " " ns
  rw [← TL.join_eq] at j
  have : (" " : Str).length = 1 := rfl
  rw [this] at j
  exact ⟨by omega, s⟩
theorem atX_len {k : Bool} {ns : List Str} (h : ∀ n ∈ ns, isNm n = true) (hl : ns.length ≤ 64) : (atX k ns).length ≤ 700 := by
  have j := (join_len h).1
  unfold atX
  split
  · split
    · cases ns with
      | nil => exact Nat.zero_le _
      | cons n ns =>
        have := isNm_len (h n List.mem_cons_self)
        show n.length ≤ 700
        omega
    · rw [glue_len]
      show 0 + (1 + ((Txt.join " " ns).length + (1 + 0))) ≤ 700
      omega
  · split
    · exact Nat.le_of_ble_eq_true rfl
    · rw [glue_len]
      show 0 + (2 + ((Txt.join " " ns).length + (1 + 0))) ≤ 700
      omega
def ct_atom_text (K : PySem.W.Frag) : Ct := Ct2 fun a b ka out => ∃ k ns, a = .val (.str (kdS k)) ∧ b = .val (.tup (stD ns)) ∧ (∀ n ∈ ns, isNm n = true) ∧ ns.length ≤ 64 ∧ (k = true → ns ≠ []) ∧ ka = [] ∧ out = Rt (.str (atX k ns)) []
section
variable {P : Program} {w : World} {K : PySem.W.Frag} {mg : Str → Option Value} {base : Heap}
theorem ok_atom_text (T : Tx K mg w) : Fn P w K mg base 4 (He.ga K "atom_text") ["kind", "names"] (ct_atom_text K) := by
  obtain ⟨fd, F⟩ := T.d_atom_text
  refine fn_ok F sc_atom_text (fun _ _ _ _ _ _ us hl => match us, hl with | [_, _], _ => rfl) ct2_len (fun cdv A outer s H E hr => ⟨_, (pss_cons (ps_if (pt_cmpR (op_eqP (by have := (hr).units; exact this)) (pv 0) pe_str (nomark _))
      (pss_one (ps_ret (pe_ifExp (pt_cmpR (op_eqP (by have := (hr).units; exact this)) (pe_callB call_lenU rfl T.n_len (by decide +kernel) (pa_cons (pv 1) pa_nil)) pe_int (nomark _)) (pe_ix ix_seq (pv 1) pe_int fun _ _ => rfl) (pe_joined (.cons pe_str (.cons (pe_fmt (pe_join pe_str (pv 1))) (.cons pe_str .nil)))))))
      pss_nil)
      (pss_one (ps_ret (pe_ifExp (pt_cmpR (op_eqP (by have := (hr).units; exact this)) (pv 1) (pe_tup pa_nil) (nomark _)) pe_str (pe_joined (.cons pe_str (.cons (pe_fmt (pe_join pe_str (pv 1))) (.cons pe_str .nil)))))))), fun ws ka out B F0 Q hC hR hX => ?_⟩)
  obtain ⟨a, b, rfl, k, ns, rfl, rfl, hn, hl, hne, rfl, rfl⟩ := hC
  obtain ⟨j1, j2⟩ := join_len hn
  have one : (" " : Str).length = 1 := rfl
  have jn : ∀ {ro : Ro}, ro[1]? = some (some (.val (.tup (stD ns)))) → EvD K (tFmt (tM1 (rJoin K) (tC (.str " ")) (tVar 1))) ro [] (.val (.str (Txt.join " " ns))) [] := fun h => ev_fmt (ev_join (ss := ns) ev_str (ev_var h) .vt (by rw [one]; omega)) (by omega)
  cases k with
  | true =>
    refine q_when (b := true) ((et_test (ev_eqS (ev_var rfl) ev_str)).to rfl) (fun _ => ?_) (fun z => by cases z)
    by_cases h1 : ns.length = 1
    · obtain ⟨n, rfl⟩ := List.length_eq_one_iff.mp h1
      exact g_ret hR (ev_ifT (k1 := []) ((et_test (ev_eqI (ev_len (ev_var rfl) .vt) ev_int)).to (b := true) (by rw [stD_len]; rfl)) (ev_ixV (d := .str n) (ev_var rfl) ev_int .vt at0)) ⟨rfl, rfl⟩
    · refine g_ret hR (ev_ifF (k1 := []) ((et_test (ev_eqI (ev_len (ev_var rfl) .vt) ev_int)).to (b := false) (by rw [stD_len]; exact beq_eq_false_iff_ne.mpr fun z => h1 (by exact_mod_cast z))) ((ev_fstr (ss := ["[", Txt.join " " ns, "]"]) (.cons ev_str (.cons (jn rfl) (.cons ev_str .nil))) ?len).to (w' := .val (.str (atX true ns))) (by unfold atX; rw [if_pos rfl, if_neg h1]))) ⟨rfl, rfl⟩
      rw [glue_len]
      show 0 + (1 + ((Txt.join " " ns).length + (1 + 0))) ≤ 100000
      omega
  | false =>
    refine q_when (b := false) ((et_test (ev_eqS (ev_var rfl) ev_str)).to rfl) (fun z => by cases z) (fun _ => ?_)
    have tst : ∀ {ro : Ro}, ro[1]? = some (some (.val (.tup (stD ns)))) → EvT K (tTest (tOp (rEqP K false) (tVar 1) (tTup tNil))) ro [] (decide (ns = [])) [] := fun h => (et_test (ev_eq (d := .tup (stD ns)) (e := .tup []) (ev_var h) (ev_tup (ds := []) ea_nil (by decide)) .v .v (pl_stD _ 60) rfl)).to (by cases ns <;> rfl)
    by_cases h0 : ns = []
    · subst h0
      exact g_ret hR (ev_ifT (k1 := []) ((tst rfl).to rfl) ev_str) ⟨rfl, rfl⟩
    · refine g_ret hR (ev_ifF (k1 := []) ((tst rfl).to (decide_eq_false h0)) ((ev_fstr (ss := ["[^", Txt.join " " ns, "]"]) (.cons ev_str (.cons (jn rfl) (.cons ev_str .nil))) ?len2).to (w' := .val (.str (atX false ns))) (by unfold atX; rw [if_neg (by decide), if_neg h0]))) ⟨rfl, rfl⟩
      rw [glue_len]
      show 0 + (2 + ((Txt.join " " ns).length + (1 + 0))) ≤ 100000
      omega
end
/-- the text of a pattern -/
def txO : Tr → Str
  | .at k ns => atX k (inOrd ns)
  | .join a b => txO a ++ " " ++ txO b
  | .either a b => glue Str.empty ["(", txO a, " | ", txO b, ")"]
  | .rep a => glue Str.empty ["(", txO a, ")"] ++ "*"
  | .opt a => glue Str.empty ["(", txO a, ")"] ++ "?"
/-- how many nodes -/
def ndsT : Tr → Nat
  | .at _ _ => 1
  | .join a b => ndsT a + ndsT b + 1
  | .either a b => ndsT a + ndsT b + 1
  | .rep a => ndsT a + 1
  | .opt a => ndsT a + 1
/-- names are names, not too many -/
def nmdT : Tr → Prop
  | .at k ns => (∀ n ∈ ns, isNm n = true) ∧ ns.length < 64 ∧ (k = true → ns ≠ [])
  | .join a b => nmdT a ∧ nmdT b
  | .either a b => nmdT a ∧ nmdT b
  | .rep a => nmdT a
  | .opt a => nmdT a
theorem inOrd_mem {ns : List Str} {n : Str} : n ∈ inOrd ns ↔ n ∈ ns := mem_srt.trans mem_dedS
theorem inOrd_len (ns : List Str) : (inOrd ns).length ≤ ns.length := by
  unfold inOrd
  rw [srt_len]
  exact dedS_len ns
theorem txO_len : ∀ {t : Tr}, nmdT t → (txO t).length ≤ 710 * ndsT t
  | .at k ns, h => Nat.le_trans (atX_len (fun n hn => h.1 n (inOrd_mem.mp hn)) (by have := inOrd_len ns; have := h.2.1; omega)) (by show 700 ≤ 710 * 1; decide)
  | .join a b, h => by
    have h1 := txO_len h.1
    have h2 := txO_len h.2
    show (txO a ++ " " ++ txO b).length ≤ 710 * (ndsT a + ndsT b + 1)
    rw [PySem.Str.length_append, PySem.Str.length_append]
    have : (" " : Str).length = 1 := rfl
    omega
  | .either a b, h => by
    have h1 := txO_len h.1
    have h2 := txO_len h.2
    show (glue Str.empty ["(", txO a, " | ", txO b, ")"]).length ≤ 710 * (ndsT a + ndsT b + 1)
    rw [glue_len]
    show 0 + (1 + ((txO a).length + (3 + ((txO b).length + (1 + 0))))) ≤ _
    omega
  | .rep a, h => by
    have h1 := txO_len (t := a) h
    show (glue Str.empty ["(", txO a, ")"] ++ "*").length ≤ 710 * (ndsT a + 1)
    rw [PySem.Str.length_append, glue_len]
    show 0 + (1 + ((txO a).length + (1 + 0))) + 1 ≤ _
    omega
  | .opt a, h => by
    have h1 := txO_len (t := a) h
    show (glue Str.empty ["(", txO a, ")"] ++ "?").length ≤ 710 * (ndsT a + 1)
    rw [PySem.Str.length_append, glue_len]
    show 0 + (1 + ((txO a).length + (1 + 0))) + 1 ≤ _
    omega
theorem nds_parts {t p : Tr} (h : p ∈ t.parts) : ndsT p < ndsT t := by
  cases t with
  | «at» k ns => cases h
  | join a b =>
    show ndsT p < ndsT a + ndsT b + 1
    rcases List.mem_cons.mp h with rfl | h
    · omega
    · rw [List.mem_singleton.mp h]; omega
  | either a b =>
    show ndsT p < ndsT a + ndsT b + 1
    rcases List.mem_cons.mp h with rfl | h
    · omega
    · rw [List.mem_singleton.mp h]; omega
  | rep a => rw [List.mem_singleton.mp h]; exact Nat.lt_succ_self _
  | opt a => rw [List.mem_singleton.mp h]; exact Nat.lt_succ_self _
theorem nmd_parts {t p : Tr} (hn : nmdT t) (h : p ∈ t.parts) : nmdT p := by
  cases t with
  | «at» k ns => cases h
  | join a b =>
    rcases List.mem_cons.mp h with rfl | h
    · exact hn.1
    · rw [List.mem_singleton.mp h]; exact hn.2
  | either a b =>
    rcases List.mem_cons.mp h with rfl | h
    · exact hn.1
    · rw [List.mem_singleton.mp h]; exact hn.2
  | rep a => rw [List.mem_singleton.mp h]; exact hn
  | opt a => rw [List.mem_singleton.mp h]; exact hn
def ct_text_of (d : Nat) (K : PySem.W.Frag) : Ct := Ct1 fun a ka out => ∃ t : Tr, a = .val (t.d false) ∧ t.dep < d ∧ nmdT t ∧ ndsT t ≤ 130 ∧ ka = [] ∧ out = Rt (.str (txO t)) []
theorem ct_text_of_zero (K : PySem.W.Frag) : ∀ ws ka out, ¬ ct_text_of 0 K ws ka out := fun ws ka out ⟨_, _, t, _, hd, _⟩ => absurd hd (Nat.not_lt_zero _)
section
variable {P : Program} {w : World} {K : PySem.W.Frag} {mg : Str → Option Value} {base : Heap}
theorem ok_text_of (T : Tx K mg w) (F_in_order : Fn P w K mg base 4 (He.ga K "in_order") ["names"] (ct_in_order K)) (F_atom_text : Fn P w K mg base 4 (He.ga K "atom_text") ["kind", "names"] (ct_atom_text K)) : ∀ d : Nat, Fn P w K mg base (2 * d + 6) (He.ga K "text_of") ["tree"] (ct_text_of d K) := by
  obtain ⟨fd, F⟩ := T.d_text_of
  intro d
  induction d with
  | zero => exact fn_vac F sc_text_of (fun _ _ _ _ _ _ us hl => match us, hl with | [_], _ => rfl) (ct_text_of_zero K)
  | succ d F_text_of => ?_
  refine fn_ok F sc_text_of (fun _ _ _ _ _ _ us hl => match us, hl with | [_], _ => rfl) ct1_len (fun cdv A outer s H E hr => ⟨_, (pss_cons (ps_if (PW.pt (pw_or (pt_cmpR (op_eqP (by have := (hr).units; exact this)) (pe_ix ix_seq (pv 0) pe_int fun _ _ => rfl) pe_str (nomark _)) (pw_or1 (pt_cmpR (op_eqP (by have := (hr).units; exact this)) (pe_ix ix_seq (pv 0) pe_int fun _ _ => rfl) pe_str (nomark _)))))
      (pss_one (ps_ret (pe_call (F_atom_text.up (by omega)).ok hr rfl T.g_atom_text.1 T.g_atom_text.2 (F_atom_text.up (by omega)).bn .nil (pass_own rfl rfl rfl rfl) (pa_cons (pe_ix ix_seq (pv 0) pe_int fun _ _ => rfl) (pa_cons (pe_call (F_in_order.up (by omega)).ok hr rfl T.g_in_order.1 T.g_in_order.2 (F_in_order.up (by omega)).bn .nil (pass_own rfl rfl rfl rfl) (pa_cons (pe_ix ix_seq (pv 0) pe_int fun _ _ => rfl) pa_nil)) pa_nil)))))
      pss_nil)
      (pss_cons (ps_setLc (i := 2) (te := (tCall (spC K (ct_text_of d K)) [] (fun _ _ _ => False) (tCons (tVar 1) tNil))) (tt := tYes) (own := [("part", 1)]) rfl sc_text_of.nd rfl rfl rfl (pi_seq (pe_slice sl_U (pv 0) (po_some pe_int) po_none)) (blk_ok ["tree", "part", "told"] (defScope s_text_of) rfl rfl (by decide +kernel)) (fun _ _ _ _ _ => (pg_name (i := 1) sc_text_of.nd rfl (by first | exact Or.inl rfl | exact Or.inr rfl))) (fun _ _ _ _ _ => pts_nil) (fun _ _ _ _ _ => (pe_call (F_text_of.up (by omega)).ok hr rfl T.g_text_of.1 T.g_text_of.2 (F_text_of.up (by omega)).bn .nil passes_no (pa_cons (pv 1) pa_nil))))
      (pss_cons (ps_if (pt_cmpR (op_eqP (by have := (hr).units; exact this)) (pe_ix ix_seq (pv 0) pe_int fun _ _ => rfl) pe_str (nomark _))
      (pss_one (ps_ret (pe_op op_addU (pe_op op_addU (pe_ix ix_seq (pv 2) pe_int fun _ _ => rfl) pe_str) (pe_ix ix_seq (pv 2) pe_int fun _ _ => rfl))))
      pss_nil)
      (pss_cons (ps_if (pt_cmpR (op_eqP (by have := (hr).units; exact this)) (pe_ix ix_seq (pv 0) pe_int fun _ _ => rfl) pe_str (nomark _))
      (pss_one (ps_ret (pe_joined (.cons pe_str (.cons (pe_fmt (pe_ix ix_seq (pv 2) pe_int fun _ _ => rfl)) (.cons pe_str (.cons (pe_fmt (pe_ix ix_seq (pv 2) pe_int fun _ _ => rfl)) (.cons pe_str .nil))))))))
      pss_nil)
      (pss_one (ps_ret (pe_op op_addU (pe_joined (.cons pe_str (.cons (pe_fmt (pe_ix ix_seq (pv 2) pe_int fun _ _ => rfl)) (.cons pe_str .nil)))) (pe_ifExp (pt_cmpR (op_eqP (by have := (hr).units; exact this)) (pe_ix ix_seq (pv 0) pe_int fun _ _ => rfl) pe_str (nomark _)) pe_str pe_str)))))))), fun ws ka out B F0 Q hC hR hX => ?_⟩)
  obtain ⟨a, rfl, t, rfl, hd, hn, hz, rfl, rfl⟩ := hC
  by_cases hat : ∃ k ns, t = .at k ns
  · obtain ⟨k, ns, rfl⟩ := hat
    refine q_when (b := true) ((et_or (et_test (ev_eqS (ev_ixV (ev_var rfl) ev_int .vt at0) ev_str)) (fun _ => et_test (ev_eqS (ev_ixV (ev_var rfl) ev_int .vt at0) ev_str))).to (by cases k <;> rfl)) (fun _ => ?_) (fun z => by cases z)
    have il := inOrd_len ns
    have nl := hn.2.1
    exact g_ret hR (ev_callP (d := .str (atX k (inOrd ns))) (ea2 (ev_ixV (ev_var rfl) ev_int .vt at0) (ev_callP (d := .tup (stD (inOrd ns))) (ea1 (ev_ixV (d := .tup (stD ns)) (ev_var rfl) ev_int .vt (atI_nat (j := 1) rfl))) ⟨_, rfl, true, false, ns, .vt, nl, rfl⟩)) ⟨_, _, rfl, k, inOrd ns, rfl, rfl, fun n hn' => hn.1 n (inOrd_mem.mp hn'), by omega, fun hk z => (by
      obtain ⟨x, hx⟩ := List.exists_mem_of_ne_nil _ (hn.2.2 hk)
      have := inOrd_mem.mpr hx
      rw [z] at this
      cases this), rfl, rfl⟩) ⟨rfl, rfl⟩
  have h : ∀ k ns, t ≠ .at k ns := fun k ns e => hat ⟨k, ns, e⟩
  have hdp := d_parts (b := false) h
  have hdl := fun p (hp : p ∈ t.parts) => dep_parts hp
  have hnl := fun p (hp : p ∈ t.parts) => nds_parts hp
  have hml := fun p (hp : p ∈ t.parts) => nmd_parts hn hp
  have htg := tag_no h
  have hpl : t.parts.length ≤ 2 := by cases t <;> exact Nat.le_of_ble_eq_true rfl
  rw [hdp]
  refine q_when (b := false) ((et_or (et_test (ev_eqS (ev_ixV (ev_var rfl) ev_int .vt at0) ev_str)) (fun _ => et_test (ev_eqS (ev_ixV (ev_var rfl) ev_int .vt at0) ev_str))).to htg) (fun z => by cases z) (fun _ => ?_)
  have cut : cutD (D.str t.tag :: t.parts.map (Tr.d false)) (some 1) none = t.parts.map (Tr.d false) := by
    rw [cut_from (by decide) (by rw [List.length_cons]; omega)]
    rfl
  refine q_asg (w := .val (.lst (stD (t.parts.map txO)))) ((evn_filt (xs := t.parts) (g := fun p : Tr => W.val (p.d false)) (f := fun p : Tr => D.str (txO p)) (p := fun _ => true) (C := fun _ => True) (EvI.ws (ws' := t.parts.map fun p => W.val (p.d false)) (ei_seq (ds := t.parts.map (Tr.d false)) ((ev_slT (ev_var rfl) (eo_some ev_int) eo_none).to (by rw [cut])) .vt) (by rw [List.map_map]; rfl)) (by decide) (by omega) ⟨trivial, fun _ => trivial⟩ (fun p hp => et_yes) (fun p hp _ => ev_callP (ea1 (ev_var rfl)) ⟨_, rfl, p, rfl, by have := hdl p hp; omega, hml p hp, by have := hnl p hp; omega, rfl, rfl⟩)).lst.to ?c1) ?_
  case c1 =>
    rw [List.filter_eq_self.mpr fun _ _ => rfl]
    unfold stD
    rw [List.map_map]
    rfl
  have ln := txO_len hn
  cases t with
  | «at» k ns => exact absurd rfl (h k ns)
  | join a b =>
    have la := txO_len hn.1
    have lb := txO_len hn.2
    have hz : ndsT a + ndsT b + 1 ≤ 130 := hz
    have one : (" " : Str).length = 1 := rfl
    refine q_when (b := true) ((et_test (ev_eqS (ev_ixV (ev_var rfl) ev_int .vt at0) ev_str)).to rfl) (fun _ => ?_) (fun z => by cases z)
    exact g_ret hR (ev_addS (ev_addS (ev_ixV (d := .str (txO a)) (ev_var rfl) ev_int .vl at0) ev_str (by rw [one]; omega)) (ev_ixV (d := .str (txO b)) (ev_var rfl) ev_int .vl (atI_nat (j := 1) rfl)) (by rw [PySem.Str.length_append, one]; omega)) ⟨rfl, rfl⟩
  | either a b =>
    have la := txO_len hn.1
    have lb := txO_len hn.2
    have hz : ndsT a + ndsT b + 1 ≤ 130 := hz
    refine q_when (b := false) ((et_test (ev_eqS (ev_ixV (ev_var rfl) ev_int .vt at0) ev_str)).to rfl) (fun z => by cases z) (fun _ => ?_)
    refine q_when (b := true) ((et_test (ev_eqS (ev_ixV (ev_var rfl) ev_int .vt at0) ev_str)).to rfl) (fun _ => ?_) (fun z => by cases z)
    exact g_ret hR (ev_fstr (ss := ["(", txO a, " | ", txO b, ")"]) (.cons ev_str (.cons (ev_fmt (ev_ixV (d := .str (txO a)) (ev_var rfl) ev_int .vl at0) (by omega)) (.cons ev_str (.cons (ev_fmt (ev_ixV (d := .str (txO b)) (ev_var rfl) ev_int .vl (atI_nat (j := 1) rfl)) (by omega)) (.cons ev_str .nil))))) (by have ln : (glue Str.empty ["(", txO a, " | ", txO b, ")"]).length ≤ 710 * (ndsT a + ndsT b + 1) := ln; omega)) ⟨rfl, rfl⟩
  | rep a =>
    have la := txO_len (t := a) hn
    have hz : ndsT a + 1 ≤ 130 := hz
    have l3 : (glue Str.empty ["(", txO a, ")"]).length ≤ 100000 - 1 := by
      rw [glue_len]
      show 0 + (1 + ((txO a).length + (1 + 0))) ≤ _
      omega
    have one : ("*" : Str).length = 1 := rfl
    refine q_when (b := false) ((et_test (ev_eqS (ev_ixV (ev_var rfl) ev_int .vt at0) ev_str)).to rfl) (fun z => by cases z) (fun _ => ?_)
    refine q_when (b := false) ((et_test (ev_eqS (ev_ixV (ev_var rfl) ev_int .vt at0) ev_str)).to rfl) (fun z => by cases z) (fun _ => ?_)
    exact g_ret hR (ev_addS (ev_fstr (ss := ["(", txO a, ")"]) (.cons ev_str (.cons (ev_fmt (ev_ixV (d := .str (txO a)) (ev_var rfl) ev_int .vl at0) (by omega)) (.cons ev_str .nil))) (by omega)) (ev_ifT (k1 := []) ((et_test (ev_eqS (ev_ixV (ev_var rfl) ev_int .vt at0) ev_str)).to (b := true) rfl) ev_str) (by rw [one]; omega)) ⟨rfl, rfl⟩
  | opt a =>
    have la := txO_len (t := a) hn
    have hz : ndsT a + 1 ≤ 130 := hz
    have l3 : (glue Str.empty ["(", txO a, ")"]).length ≤ 100000 - 1 := by
      rw [glue_len]
      show 0 + (1 + ((txO a).length + (1 + 0))) ≤ _
      omega
    have one : ("?" : Str).length = 1 := rfl
    refine q_when (b := false) ((et_test (ev_eqS (ev_ixV (ev_var rfl) ev_int .vt at0) ev_str)).to rfl) (fun z => by cases z) (fun _ => ?_)
    refine q_when (b := false) ((et_test (ev_eqS (ev_ixV (ev_var rfl) ev_int .vt at0) ev_str)).to rfl) (fun z => by cases z) (fun _ => ?_)
    exact g_ret hR (ev_addS (ev_fstr (ss := ["(", txO a, ")"]) (.cons ev_str (.cons (ev_fmt (ev_ixV (d := .str (txO a)) (ev_var rfl) ev_int .vl at0) (by omega)) (.cons ev_str .nil))) (by omega)) (ev_ifF (k1 := []) ((et_test (ev_eqS (ev_ixV (ev_var rfl) ev_int .vt at0) ev_str)).to (b := false) rfl) ev_str) (by rw [one]; omega)) ⟨rfl, rfl⟩
end
/-- a pattern -/
abbrev PaD (K : PySem.W.Frag) (d : D) : D := .ins (He.ga K "Pattern") [("tree", d)]
def ct_Pattern___init (K : PySem.W.Frag) : Ct := Ct2 fun s a ka out => ∃ p d, s = .val (.adr p) ∧ a = .val d ∧ ka = [(p, .ins (He.ga K "Pattern") [])] ∧ out = Rt .non [(p, .ins (He.ga K "Pattern") [("tree", d)])]
/-- Pattern(tree) -/
theorem ev_pat {K : PySem.W.Frag} {ro : Ro} {ka : Cells} {te : TE} {d : D} {E : XK} (h : EvD K te ro ka (.val d) []) : EvD K (tMake (He.ga K "Pattern") (spC K (ct_Pattern___init K)) [] E (tCons te tNil)) ro ka (.val (PaD K d)) [] :=
  (evn_make (ea1 h) fun a => ⟨_, ⟨_, _, rfl, a, d, rfl, rfl, rfl, rfl⟩, fun _ _ z => z⟩).ins
section
variable {P : Program} {w : World} {K : PySem.W.Frag} {mg : Str → Option Value} {base : Heap}
theorem ok_Pattern___init (T : Tx K mg w) : Fn P w K mg base 4 (He.ma K (He.ga K "Pattern") "__init__") ["self", "tree"] (ct_Pattern___init K) := by
  obtain ⟨fd, F⟩ := T.d_Pattern___init
  refine fn_ok F sc_Pattern___init (fun _ _ _ _ _ _ us hl => match us, hl with | [_, _], _ => rfl) ct2_len (fun cdv A outer s H E hr => ⟨_, (pss_one (ps_fld (pv 0) (pv 1) rfl)), fun ws ka out B F0 Q hC hR hX => ?_⟩)
  obtain ⟨s1, a, rfl, p, d, rfl, rfl, rfl, rfl⟩ := hC
  exact g_fld (j := 0) (a := p) (fs := []) (d := d) (ev_var rfl) (ev_var rfl) rfl T.cl_Pattern T.na_Pattern_tree (show 0 < 900 by decide) (g_end hR ⟨rfl, rfl⟩)
end
def ct_Pattern_text (K : PySem.W.Frag) : Ct := Ct1 fun s ka out => ∃ u : Tr, s = .val (PaD K (u.d false)) ∧ u.dep < 64 ∧ nmdT u ∧ ndsT u ≤ 130 ∧ ka = [] ∧ out = Rt (.str (txO u)) []
section
variable {P : Program} {w : World} {K : PySem.W.Frag} {mg : Str → Option Value} {base : Heap}
theorem ok_Pattern_text (T : Tx K mg w) (F_text_of : Fn P w K mg base 134 (He.ga K "text_of") ["tree"] (ct_text_of 64 K)) : Fn P w K mg base 136 (pga K (He.ga K "Pattern") "text") ["self"] (ct_Pattern_text K) := by
  obtain ⟨fd, F⟩ := T.d_Pattern_text
  refine fn_ok F sc_Pattern_text (fun _ _ _ _ _ _ us hl => match us, hl with | [_], _ => rfl) ct1_len (fun cdv A outer s H E hr => ⟨_, (pss_one (ps_ret (pe_call (F_text_of.up (by decide)).ok hr rfl T.g_text_of.1 T.g_text_of.2 (F_text_of.up (by decide)).bn .nil (pass_own rfl rfl rfl rfl) (pa_cons (pe_fld (pv 0) rfl) pa_nil)))), fun ws ka out B F0 Q hC hR hX => ?_⟩)
  obtain ⟨s, rfl, u, rfl, hd, hn, hz, rfl, rfl⟩ := hC
  exact g_ret hR (ev_callP (ea1 (ev_fld (ev_var rfl) .v T.cl_Pattern T.na_Pattern_tree rfl)) ⟨_, rfl, u, rfl, hd, hn, hz, rfl, rfl⟩) ⟨rfl, rfl⟩
end
def ct_sign_at (K : PySem.W.Frag) : Ct := Ct2 fun a b ka out => ∃ (cs : List Nat) (i : Nat), a = .val (.str (tx cs)) ∧ b = .val (.int (i : Int)) ∧ cs.length ≤ 3000 ∧ ka = [] ∧ out = Rt (.str (sgS cs i)) []
section
variable {P : Program} {w : World} {K : PySem.W.Frag} {mg : Str → Option Value} {base : Heap}
theorem ok_sign_at (T : Tx K mg w) : Fn P w K mg base 4 (He.ga K "sign_at") ["text", "at"] (ct_sign_at K) := by
  obtain ⟨fd, F⟩ := T.d_sign_at
  refine fn_ok F sc_sign_at (fun _ _ _ _ _ _ us hl => match us, hl with | [_, _], _ => rfl) ct2_len (fun cdv A outer s H E hr => ⟨_, (pss_one (ps_ret (pe_ifExp (pt_cmpR op_lt (pv 1) (pe_callB call_lenU rfl T.n_len (by decide +kernel) (pa_cons (pv 0) pa_nil)) (nomark _)) (pe_ix ix_seq (pv 0) (pv 1) fun _ _ => rfl) pe_str))), fun ws ka out B F0 Q hC hR hX => ?_⟩)
  obtain ⟨a, b, rfl, cs, i, rfl, rfl, hs, rfl, rfl⟩ := hC
  have hs2 : (tx cs).length ≤ 100000 := by rw [tx_len]; omega
  refine g_ret hR (ev_if (b := decide (i < cs.length)) ((et_test (ev_lt (ev_var rfl) (ev_lenS (ev_var rfl) hs2))).to ?_) (fun h => ?_) (fun h => ?_)) ⟨rfl, rfl⟩
  · rw [tx_len]
    exact decide_eq_decide.mpr Int.ofNat_lt
  · have hi := of_decide_eq_true h
    refine EvD.to (ev_ixS (c := cs[i]) (ev_var rfl) (ev_var rfl) hs2 (atI_nat (j := i) (List.getElem?_eq_getElem hi))) ?_
    unfold sgS
    rw [List.getElem?_eq_getElem hi]
  · have hi := of_decide_eq_false h
    refine EvD.to ev_str ?_
    unfold sgS
    rw [List.getElem?_eq_none (by omega)]
end
/-- a place, or the refusal of a text -/
def exO (K : PySem.W.Frag) : Except Nat Nat → Oc
  | .ok e => Rt (.int (e : Int)) []
  | .error p => Xt (He.ga K "BadText") [("place", .int (p : Int))] []
def ct_expect (K : PySem.W.Frag) : Ct := Ct3 fun a b c ka out => ∃ (cs ws : List Nat) (i : Nat), a = .val (.str (tx cs)) ∧ b = .val (.int (i : Int)) ∧ c = .val (.str (tx ws)) ∧ cs.length ≤ 3000 ∧ ka = [] ∧ out = exO K (expC cs i ws)
section
variable {P : Program} {w : World} {K : PySem.W.Frag} {mg : Str → Option Value} {base : Heap}
theorem ok_expect (T : Tx K mg w) (F_sign_at : Fn P w K mg base 4 (He.ga K "sign_at") ["text", "at"] (ct_sign_at K)) (Z_BadText : Xn P w K mg base (He.ga K "BadText") "place") : Fn P w K mg base 6 (He.ga K "expect") ["text", "at", "wanted"] (ct_expect K) := by
  obtain ⟨fd, F⟩ := T.d_expect
  refine fn_ok F sc_expect (fun _ _ _ _ _ _ us hl => match us, hl with | [_, _, _], _ => rfl) ct3_len (fun cdv A outer s H E hr => ⟨_, (pss_cons (ps_for (passes_of rfl) rfl (pi_seq (pv 2)) (pg_name (i := 3) sc_expect.nd rfl (by first | exact Or.inl rfl | exact Or.inr rfl)) (pss_cons (ps_if (pt_cmpR (op_neP (by have := (hr).units; exact this)) (pe_call (F_sign_at.up (by decide)).ok hr rfl T.g_sign_at.1 T.g_sign_at.2 (F_sign_at.up (by decide)).bn .nil (pass_own rfl rfl rfl rfl) (pa_cons (pv 0) (pa_cons (pv 1) pa_nil))) (pv 3) (nomark _))
      (pss_one (ps_raise rfl (takes_of rfl rfl rfl rfl) (pmk_oex Z_BadText.xc.oex Z_BadText.all.1 Z_BadText.all.2.1 Z_BadText.all.2.2.1 (hr.mono (by decide)) Z_BadText.all.2.2.2 .nil passes_no rfl T.g_BadText.1 (pa_cons (pv 1) pa_nil))))
      pss_nil)
      (pss_one (ps_aug (i := 1) sc_expect.nd rfl (by first | exact Or.inl rfl | exact Or.inr rfl) pe_int ip_add))))
      (pss_one (ps_ret (pv 1)))), fun ws ka out B F0 Q hC hR hX => ?_⟩)
  obtain ⟨a, b, c, rfl, cs, ws, i, rfl, rfl, rfl, hs, rfl, rfl⟩ := hC
  refine q_forn (ei_str (ev_var rfl)) (fun j ro2 ka2 => (∃ (v : Option W) (e : Nat), ro2 = [some (.val (.str (tx cs))), some (.val (.int (e : Int))), some (.val (.str (tx ws))), v] ∧ expC cs i ws = expC cs e (ws.drop j)) ∧ ka2 = []) ⟨⟨none, i, rfl, rfl⟩, rfl⟩ (fun j ro2 ka2 _ => trivial) (fun j w2 ro2 ka2 ta' hw ⟨⟨v, e, e1, e3⟩, e2⟩ => ?_) (fun ro2 ka2 ta' ⟨⟨v, e, e1, e3⟩, e2⟩ _ => ?_)
  · subst e1 e2
    rw [List.getElem?_map] at hw
    cases hx : ws[j]? with
    | none =>
      have : (tx ws).cps.toList[j]? = none := hx
      rw [this] at hw
      cases hw
    | some d =>
      have hz : (tx ws).cps.toList[j]? = some d := hx
      rw [hz] at hw
      have hw2 : W.val (.str ⟨#[d]⟩) = w2 := Option.some.inj hw
      subst hw2
      have hd : ws.drop j = d :: ws.drop (j + 1) := by
        obtain ⟨h1, h2⟩ := List.getElem?_eq_some_iff.mp hx
        rw [List.drop_eq_getElem_cons h1, h2]
      rw [hd, show expC cs e (d :: ws.drop (j + 1)) = if cs[e]? = some d then expC cs (e + 1) (ws.drop (j + 1)) else .error e from rfl] at e3
      refine q_when (b := !decide (cs[e]? = some d)) ((et_test (ev_neS (ev_callP (ea2 (ev_var rfl) (ev_var rfl)) ⟨_, _, rfl, cs, e, rfl, rfl, hs, rfl, rfl⟩) (ev_var rfl))).to (by rw [sgS_eq])) (fun hb => ?_) (fun hb => ?_)
      · have hb : ¬ cs[e]? = some d := by simpa using hb
        rw [if_neg hb] at e3
        rw [e3] at hX
        exact g_raise1 hX (ea1 (ev_var rfl)) Z_BadText.xc.oex Z_BadText.no ⟨rfl, rfl⟩
      · have hb : cs[e]? = some d := by simpa using hb
        rw [if_pos hb] at e3
        exact g_augI (z := ((e + 1 : Nat) : Int)) rfl ev_int (fun H Q q => ⟨_, _, rfl, rfl, by push_cast at q ⊢; exact q⟩) (g_jp ⟨⟨_, e + 1, rfl, e3⟩, rfl⟩)
  · subst e1 e2
    have hl : (List.map (fun c => W.val (.str ⟨#[c]⟩)) (tx ws).cps.toList).length = ws.length := by rw [List.length_map]; rfl
    rw [hl, List.drop_length] at e3
    rw [e3] at hR
    exact g_ret hR (ev_var rfl) ⟨rfl, rfl⟩
end
def ct_behind_row (K : PySem.W.Frag) : Ct := Ct2 fun a b ka out => ∃ (cs : List Nat) (i : Nat), a = .val (.str (tx cs)) ∧ b = .val (.int (i : Int)) ∧ cs.length ≤ 3000 ∧ ka = [] ∧ out = Rt (.int (behC cs i : Int)) []
section
variable {P : Program} {w : World} {K : PySem.W.Frag} {mg : Str → Option Value} {base : Heap}
theorem ok_behind_row (T : Tx K mg w) (F_sign_at : Fn P w K mg base 4 (He.ga K "sign_at") ["text", "at"] (ct_sign_at K)) : Fn P w K mg base 6 (He.ga K "behind_row") ["text", "at"] (ct_behind_row K) := by
  obtain ⟨fd, F⟩ := T.d_behind_row
  refine fn_ok F sc_behind_row (fun _ _ _ _ _ _ us hl => match us, hl with | [_, _], _ => rfl) ct2_len (fun cdv A outer s H E hr => ⟨_, (pss_one (ps_ret (pe_ifExp (pt_cmpR (op_eqP (by have := (hr).units; exact this)) (pe_call (F_sign_at.up (by decide)).ok hr rfl T.g_sign_at.1 T.g_sign_at.2 (F_sign_at.up (by decide)).bn .nil (pass_own rfl rfl rfl rfl) (pa_cons (pv 0) (pa_cons (pv 1) pa_nil))) pe_str (nomark _)) (pe_op op_addU (pv 1) pe_int) (pv 1)))), fun ws ka out B F0 Q hC hR hX => ?_⟩)
  obtain ⟨a, b, rfl, cs, i, rfl, rfl, hs, rfl, rfl⟩ := hC
  refine g_ret hR (ev_if (b := decide (cs[i]? = some 32)) ((et_test (ev_eqS (ev_callP (ea2 (ev_var rfl) (ev_var rfl)) ⟨_, _, rfl, cs, i, rfl, rfl, hs, rfl, rfl⟩) ev_str)).to (sgS_eq cs i 32)) (fun h => EvD.to (ev_addI (ev_var rfl) ev_int) ?_) (fun h => EvD.to (ev_var rfl) ?_)) ⟨rfl, rfl⟩
  · unfold behC
    rw [if_pos (of_decide_eq_true h)]
    rfl
  · unfold behC
    rw [if_neg (of_decide_eq_false h)]
end
/-- a name and the place behind it, or the refusal of a text -/
def nmO (K : PySem.W.Frag) : Rdg Str → Oc
  | .ok (x, e) => Rt (.tup [.str x, .int (e : Int)]) []
  | .error p => Xt (He.ga K "BadText") [("place", .int (p : Int))] []
/-- a while's word in two steps -/
theorem wh_of {K : PySem.W.Frag} {tt : TT} {ro : Ro} {ka k1 : Cells} {G1 G2 : Cells → Prop} (A1 A2 : Prop) (h : ∃ b, EvT K tt ro ka b k1 ∧ (b = true → A1) ∧ (b = false → A2)) (h1 : A1 → G1 k1) (h2 : A2 → G2 k1) : ∃ b k2, EvT K tt ro ka b k2 ∧ (b = true → G1 k2) ∧ (b = false → G2 k2) :=
  let ⟨b, t, x, y⟩ := h
  ⟨b, k1, t, fun z => h1 (x z), fun z => h2 (y z)⟩
def ct_read_name (K : PySem.W.Frag) : Ct := Ct2 fun a b ka out => ∃ (cs : List Nat) (i : Nat), a = .val (.str (tx cs)) ∧ b = .val (.int (i : Int)) ∧ cs.length ≤ 3000 ∧ ka = [] ∧ out = nmO K (rdName cs i)
section
variable {P : Program} {w : World} {K : PySem.W.Frag} {mg : Str → Option Value} {base : Heap}
theorem ok_read_name (T : Tx K mg w) (F_sign_at : Fn P w K mg base 4 (He.ga K "sign_at") ["text", "at"] (ct_sign_at K)) (Z_BadText : Xn P w K mg base (He.ga K "BadText") "place") : Fn P w K mg base 6 (He.ga K "read_name") ["text", "at"] (ct_read_name K) := by
  obtain ⟨fd, F⟩ := T.d_read_name
  refine fn_ok F sc_read_name (fun _ _ _ _ _ _ us hl => match us, hl with | [_, _], _ => rfl) ct2_len (fun cdv A outer s H E hr => ⟨_, (pss_cons (ps_if (PW.pt (pw_or (pt_cmpR (op_eqP (by have := (hr).units; exact this)) (pe_call (F_sign_at.up (by decide)).ok hr rfl T.g_sign_at.1 T.g_sign_at.2 (F_sign_at.up (by decide)).bn .nil (pass_own rfl rfl rfl rfl) (pa_cons (pv 0) (pa_cons (pv 1) pa_nil))) pe_str (nomark _)) (pw_or1 (pt_cmpR op_niU (pe_ix ix_seq (pv 0) (pv 1) fun _ _ => rfl) (pe_gv rfl T.v_LETTERS) (by with_unfolding_all rfl)))))
      (pss_one (ps_raise rfl (takes_of rfl rfl rfl rfl) (pmk_oex Z_BadText.xc.oex Z_BadText.all.1 Z_BadText.all.2.1 Z_BadText.all.2.2.1 (hr.mono (by decide)) Z_BadText.all.2.2.2 .nil passes_no rfl T.g_BadText.1 (pa_cons (pv 1) pa_nil))))
      pss_nil)
      (pss_cons (ps_set (i := 2) sc_read_name.nd rfl (by first | exact Or.inl rfl | exact Or.inr rfl) (pe_op op_addU (pv 1) pe_int))
      (pss_cons (ps_while (passes_of rfl) (PW.pt (pw_and (pt_cmpR op_lt (pv 2) (pe_callB call_lenU rfl T.n_len (by decide +kernel) (pa_cons (pv 0) pa_nil)) (nomark _)) (pw_and (pt_cmpR op_lt (pe_op op_sub (pv 2) (pv 1)) (pe_gv rfl T.v_LONGEST) (nomark _)) (pw_and1 (PW.pt (pw_or (pt_cmpR op_inU (pe_ix ix_seq (pv 0) (pv 2) fun _ _ => rfl) (pe_gv rfl T.v_LETTERS) (by with_unfolding_all rfl)) (pw_or1 (pt_cmpR op_inU (pe_ix ix_seq (pv 0) (pv 2) fun _ _ => rfl) (pe_gv rfl T.v_DIGITS) (by with_unfolding_all rfl))))))))) (pss_one (ps_aug (i := 2) sc_read_name.nd rfl (by first | exact Or.inl rfl | exact Or.inr rfl) pe_int ip_add)))
      (pss_one (ps_ret (pe_tup (pa_cons (pe_slice sl_U (pv 0) (po_some (pv 1)) (po_some (pv 2))) (pa_cons (pv 2) pa_nil)))))))), fun ws ka out B F0 Q hC hR hX => ?_⟩)
  obtain ⟨a, b, rfl, cs, i, rfl, rfl, hs, rfl, rfl⟩ := hC
  have hs2 : (tx cs).length ≤ 100000 := by rw [tx_len]; omega
  cases hc : cs[i]? with
  | none =>
    have e : rdName cs i = .error i := by unfold rdName; rw [hc]
    rw [e] at hX
    refine q_when (b := true) (et_or1 ((et_test (ev_eqS (ev_callP (ea2 (ev_var rfl) (ev_var rfl)) ⟨_, _, rfl, cs, i, rfl, rfl, hs, rfl, rfl⟩) ev_str)).to (by rw [sgS_nil, hc]; rfl))) (fun _ => g_raise1 hX (ea1 (ev_var rfl)) Z_BadText.xc.oex Z_BadText.no ⟨rfl, rfl⟩) (fun z => by cases z)
  | some c =>
    obtain ⟨hi, hci⟩ := List.getElem?_eq_some_iff.mp hc
    refine q_when (b := !decide (c ∈ letL)) (et_or0 ((et_test (ev_eqS (ev_callP (ea2 (ev_var rfl) (ev_var rfl)) ⟨_, _, rfl, cs, i, rfl, rfl, hs, rfl, rfl⟩) ev_str)).to (by rw [sgS_nil, hc]; rfl)) (et_test (ev_niS (ev_ixS (c := c) (ev_var rfl) (ev_var rfl) hs2 (atI_nat (j := i) hc)) ev_str))) (fun hb => ?_) (fun hb => ?_)
    · have hb : c ∉ letL := by simpa using hb
      have e : rdName cs i = .error i := by unfold rdName; rw [hc]; exact if_neg hb
      rw [e] at hX
      exact g_raise1 hX (ea1 (ev_var rfl)) Z_BadText.xc.oex Z_BadText.no ⟨rfl, rfl⟩
    · have hb : c ∈ letL := by simpa using hb
      have e : rdName cs i = .ok (⟨((cs.drop i).take (runN 7 (cs.drop (i + 1)) + 1)).toArray⟩, i + (runN 7 (cs.drop (i + 1)) + 1)) := by unfold rdName; rw [hc]; exact if_pos hb
      rw [e] at hR
      refine q_asg (w := .val (.int ((i + 1 : Nat) : Int))) (EvD.to (ev_addI (ev_var rfl) ev_int) rfl) ?_
      refine q_while (fun m ro ka => ∃ k : Nat, k + m = 7 ∧ ro = [some (.val (.str (tx cs))), some (.val (.int (i : Int))), some (.val (.int ((i + 1 + k : Nat) : Int)))] ∧ ka = [] ∧ runN 7 (cs.drop (i + 1)) = k + runN m (cs.drop (i + 1 + k))) 7 ⟨0, rfl, rfl, rfl, by rw [Nat.zero_add]⟩ (fun m ro2 ka2 ⟨k, hk, e1, e2, hr2⟩ => ?_)
      subst e1 e2
      refine wh_of (k1 := []) (∃ m', m = m' + 1 ∧ runN m (cs.drop (i + 1 + k)) = runN m' (cs.drop (i + 1 + (k + 1))) + 1) (runN m (cs.drop (i + 1 + k)) = 0) ?_ (fun ⟨m', hm, h⟩ => ?_) (fun h0 => ?_)
      rotate_left
      · refine g_augI (z := ((i + 1 + (k + 1) : Nat) : Int)) rfl ev_int (fun H Q q => ⟨_, _, rfl, rfl, by push_cast at q ⊢; rw [← Int.add_assoc] at q; exact q⟩) (g_jp ⟨m', by omega, k + 1, by omega, rfl, rfl, ?_⟩)
        rw [hr2, h]
        omega
      · rw [h0] at hr2
        have hk2 : runN 7 (cs.drop (i + 1)) = k := by omega
        have hrl := (runN_le 7 (cs.drop (i + 1))).2
        rw [List.length_drop, hk2] at hrl
        rw [hk2] at hR
        refine g_ret hR (ev_tup (ds := [.str ⟨((cs.drop i).take (k + 1)).toArray⟩, .int ((i + (k + 1) : Nat) : Int)]) (ea2 ((ev_slS (ev_var rfl) (eo_some (ev_var rfl)) (eo_some (ev_var rfl)) hs2).to ?_) (EvD.to (ev_var rfl) ?_)) (Nat.le_of_ble_eq_true rfl)) ⟨rfl, rfl⟩
        · rw [tx_cut]
          unfold cutD
          rw [six_nat (by omega) (by omega), six_nat (by omega) (by omega), Int.toNat_natCast, Int.toNat_natCast, show i + 1 + k - i = k + 1 by omega]
          rfl
        · rw [show i + 1 + k = i + (k + 1) by omega]
      cases hd : cs[i + 1 + k]? with
      | none =>
        have hn := List.getElem?_eq_none_iff.mp hd
        refine ⟨false, et_and0 ((et_test (ev_lt (ev_var rfl) (ev_lenS (ev_var rfl) hs2))).to ?_), (fun z => by cases z), fun _ => ?_⟩
        · rw [tx_len]
          exact decide_eq_false (by omega)
        · rw [List.drop_eq_nil_of_le hn]
          cases m <;> rfl
      | some d =>
        obtain ⟨hj, hdj⟩ := List.getElem?_eq_some_iff.mp hd
        have hcs : cs.drop (i + 1 + k) = d :: cs.drop (i + 1 + (k + 1)) := by
          rw [List.drop_eq_getElem_cons hj, hdj]
          rfl
        cases m with
        | zero =>
          exact ⟨false, et_and1 ((et_test (ev_lt (ev_var rfl) (ev_lenS (ev_var rfl) hs2))).to (by rw [tx_len]; exact decide_eq_true (by omega))) (et_and0 ((et_test (ev_lt (ev_subI (ev_var rfl) (ev_var rfl)) ev_int)).to (decide_eq_false (by omega)))), (fun z => by cases z), fun _ => rfl⟩
        | succ m =>
          refine ⟨okC d, et_and1 ((et_test (ev_lt (ev_var rfl) (ev_lenS (ev_var rfl) hs2))).to (by rw [tx_len]; exact decide_eq_true (by omega))) (et_and1 ((et_test (ev_lt (ev_subI (ev_var rfl) (ev_var rfl)) ev_int)).to (decide_eq_true (by omega))) (et_or (et_test (ev_inS (ev_ixS (c := d) (ev_var rfl) (ev_var rfl) hs2 (atI_nat (j := i + 1 + k) hd)) ev_str)) fun _ => et_test (ev_inS (ev_ixS (c := d) (ev_var rfl) (ev_var rfl) hs2 (atI_nat (j := i + 1 + k) hd)) ev_str))), fun h => ⟨m, rfl, ?_⟩, fun h => ?_⟩
          · rw [hcs]
            show (if okC d then runN m (cs.drop (i + 1 + (k + 1))) + 1 else 0) = _
            rw [if_pos h]
          · rw [hcs]
            show (if okC d then runN m (cs.drop (i + 1 + (k + 1))) + 1 else 0) = 0
            rw [if_neg (by rw [h]; decide)]
end
/-- a tree and the place behind it, or the refusal of a text -/
def trO (K : PySem.W.Frag) : Rdg Tr → Oc
  | .ok (t, e) => Rt (.tup [t.d false, .int (e : Int)]) []
  | .error p => Xt (He.ga K "BadText") [("place", .int (p : Int))] []
/-- an if without else, and what holds behind it either way -/
theorem q_meet {K : PySem.W.Frag} {B F0 : Hp} {ro : Ro} {ka k1 : Cells} {ta : List (V × W)} {tt : TT} {t u : TS} {De : Ends} {b : Bool} (Inv : Ro → Cells → Prop) (h : EvT K tt ro ka b k1) (hk : ∀ ro ka, Inv ro ka → Gp K B F0 ta (u De) ro ka) (h1 : b = true → (∀ ro ka, Inv ro ka → Gp K B F0 ta (u De) ro ka) → Gp K B F0 ta (t { De with nx := u De }) ro k1) (h2 : b = false → Inv ro k1) : Gp K B F0 ta (tSeq (tIfS tt t tNext) u De) ro ka :=
  q_when h (fun e => h1 e hk) (fun e => hk _ _ (h2 e))
theorem rdMore_fuel (cs : List Nat) : ∀ (n m : Nat) (ns : List Str) (i : Nat), cs.length + 1 ≤ n + i → cs.length + 1 ≤ m + i → rdMore cs n ns i = rdMore cs m ns i
  | 0, 0, ns, i, _, _ => rfl
  | 0, m + 1, ns, i, h1, h2 => by
    unfold rdMore
    rw [if_neg]
    rw [List.getElem?_eq_none (by omega)]
    intro h
    cases h
  | n + 1, 0, ns, i, h1, h2 => by
    unfold rdMore
    rw [if_neg]
    rw [List.getElem?_eq_none (by omega)]
    intro h
    cases h
  | n + 1, m + 1, ns, i, h1, h2 => by
    unfold rdMore
    cases h : rdName cs (i + 1) with
    | error p => rfl
    | ok z =>
      obtain ⟨x, e⟩ := z
      have := (rdName_ok h).1
      show (if _ then rdMore cs n (ns ++ [x]) e else _) = (if _ then rdMore cs m (ns ++ [x]) e else _)
      rw [rdMore_fuel cs n m (ns ++ [x]) e (by omega) (by omega)]
/-- the end of a bracket -/
def nsEnd (cs : List Nat) (k : Bool) : Rdg (List Str) → Rdg Tr
  | .error p => .error p
  | .ok (ns, e) => if cs[e]? = some 93 then .ok (.at k ns, e + 1) else .error e
def ct_read_names (K : PySem.W.Frag) : Ct := Ct2 fun a b ka out => ∃ (cs : List Nat) (i : Nat), a = .val (.str (tx cs)) ∧ b = .val (.int (i : Int)) ∧ cs.length ≤ 3000 ∧ ka = [] ∧ out = trO K (rdNames cs i)
section
variable {P : Program} {w : World} {K : PySem.W.Frag} {mg : Str → Option Value} {base : Heap}
theorem ok_read_names (T : Tx K mg w) (F_sign_at : Fn P w K mg base 4 (He.ga K "sign_at") ["text", "at"] (ct_sign_at K)) (F_read_name : Fn P w K mg base 6 (He.ga K "read_name") ["text", "at"] (ct_read_name K)) (Z_BadText : Xn P w K mg base (He.ga K "BadText") "place") : Fn P w K mg base 8 (He.ga K "read_names") ["text", "at"] (ct_read_names K) := by
  obtain ⟨fd, F⟩ := T.d_read_names
  refine fn_ok F sc_read_names (fun _ _ _ _ _ _ us hl => match us, hl with | [_, _], _ => rfl) ct2_len (fun cdv A outer s H E hr => ⟨_, (pss_cons (ps_set (i := 2) sc_read_names.nd rfl (by first | exact Or.inl rfl | exact Or.inr rfl) pe_str)
      (pss_cons (ps_if (pt_cmpR (op_eqP (by have := (hr).units; exact this)) (pe_call (F_sign_at.up (by decide)).ok hr rfl T.g_sign_at.1 T.g_sign_at.2 (F_sign_at.up (by decide)).bn .nil (pass_own rfl rfl rfl rfl) (pa_cons (pv 0) (pa_cons (pv 1) pa_nil))) pe_str (nomark _))
      (pss_cons (ps_set (i := 2) sc_read_names.nd rfl (by first | exact Or.inl rfl | exact Or.inr rfl) pe_str)
      (pss_one (ps_aug (i := 1) sc_read_names.nd rfl (by first | exact Or.inl rfl | exact Or.inr rfl) pe_int ip_add)))
      pss_nil)
      (pss_cons (ps_asg (pe_call (F_read_name.up (by decide)).ok hr rfl T.g_read_name.1 T.g_read_name.2 (F_read_name.up (by decide)).bn .nil (pass_own rfl rfl rfl rfl) (pa_cons (pv 0) (pa_cons (pv 1) pa_nil))) (pg_tup rfl (pgs_cons (pg_name (i := 3) sc_read_names.nd rfl (by first | exact Or.inl rfl | exact Or.inr rfl)) (pgs_cons (pg_name (i := 1) sc_read_names.nd rfl (by first | exact Or.inl rfl | exact Or.inr rfl)) pgs_nil))))
      (pss_cons (ps_set (i := 4) sc_read_names.nd rfl (by first | exact Or.inl rfl | exact Or.inr rfl) (pe_tup (pa_cons (pv 3) pa_nil)))
      (pss_cons (ps_while (passes_of rfl) (pt_cmpR (op_eqP (by have := (hr).units; exact this)) (pe_call (F_sign_at.up (by decide)).ok hr rfl T.g_sign_at.1 T.g_sign_at.2 (F_sign_at.up (by decide)).bn .nil (pass_own rfl rfl rfl rfl) (pa_cons (pv 0) (pa_cons (pv 1) pa_nil))) pe_str (nomark _)) (pss_cons (ps_asg (pe_call (F_read_name.up (by decide)).ok hr rfl T.g_read_name.1 T.g_read_name.2 (F_read_name.up (by decide)).bn .nil (pass_own rfl rfl rfl rfl) (pa_cons (pv 0) (pa_cons (pe_op op_addU (pv 1) pe_int) pa_nil))) (pg_tup rfl (pgs_cons (pg_name (i := 3) sc_read_names.nd rfl (by first | exact Or.inl rfl | exact Or.inr rfl)) (pgs_cons (pg_name (i := 1) sc_read_names.nd rfl (by first | exact Or.inl rfl | exact Or.inr rfl)) pgs_nil))))
      (pss_one (ps_set (i := 4) sc_read_names.nd rfl (by first | exact Or.inl rfl | exact Or.inr rfl) (pe_op op_addU (pv 4) (pe_tup (pa_cons (pv 3) pa_nil)))))))
      (pss_cons (ps_if (pt_cmpR (op_neP (by have := (hr).units; exact this)) (pe_call (F_sign_at.up (by decide)).ok hr rfl T.g_sign_at.1 T.g_sign_at.2 (F_sign_at.up (by decide)).bn .nil (pass_own rfl rfl rfl rfl) (pa_cons (pv 0) (pa_cons (pv 1) pa_nil))) pe_str (nomark _))
      (pss_one (ps_raise rfl (takes_of rfl rfl rfl rfl) (pmk_oex Z_BadText.xc.oex Z_BadText.all.1 Z_BadText.all.2.1 Z_BadText.all.2.2.1 (hr.mono (by decide)) Z_BadText.all.2.2.2 .nil passes_no rfl T.g_BadText.1 (pa_cons (pv 1) pa_nil))))
      pss_nil)
      (pss_one (ps_ret (pe_tup (pa_cons (pe_tup (pa_cons (pv 2) (pa_cons (pv 4) pa_nil))) (pa_cons (pe_op op_addU (pv 1) pe_int) pa_nil))))))))))), fun ws ka out B F0 Q hC hR hX => ?_⟩)
  obtain ⟨a, b, rfl, cs, i, rfl, rfl, hs, rfl, rfl⟩ := hC
  refine q_asg (w := .val (.str "any")) ev_str ?_
  refine q_meet (b := decide (cs[i]? = some 94)) (fun ro ka => ka = [] ∧ ∃ (k : Bool) (j : Nat), ro = [some (.val (.str (tx cs))), some (.val (.int (j : Int))), some (.val (.str (kdS k))), none, none] ∧ j = (if cs[i]? = some 94 then i + 1 else i) ∧ k = !decide (cs[i]? = some 94)) ((et_test (ev_eqS (ev_callP (ea2 (ev_var rfl) (ev_var rfl)) ⟨_, _, rfl, cs, i, rfl, rfl, hs, rfl, rfl⟩) ev_str)).to (sgS_eq cs i 94)) (fun ro2 ka2 ⟨e2, k, j, e1, hj, hk⟩ => ?_) (fun hb hk => ?_) (fun hb => ⟨rfl, true, i, rfl, by rw [if_neg (of_decide_eq_false hb)], by rw [hb]; rfl⟩)
  rotate_left
  · refine q_asg (w := .val (.str "none")) ev_str ?_
    refine g_augI (z := ((i + 1 : Nat) : Int)) rfl ev_int (fun H Q q => ⟨_, _, rfl, rfl, by push_cast at q ⊢; exact q⟩) (hk _ _ ⟨rfl, false, i + 1, rfl, by rw [if_pos (of_decide_eq_true hb)], by rw [hb]; rfl⟩)
  subst e1 e2
  cases hn : rdName cs j with
  | error p =>
    have er : rdNames cs i = .error p := by
      subst hj
      unfold rdNames
      rw [hn]
    rw [er] at hX
    exact q_asgP hX (evx_call (k2 := []) (kr := []) (k3 := []) (ea2 (ev_var rfl) (ev_var rfl)) ⟨_, _, rfl, cs, j, rfl, rfl, hs, rfl, by rw [hn]; rfl⟩ rfl) ⟨rfl, rfl⟩
  | ok z =>
    obtain ⟨x, e⟩ := z
    have er : rdNames cs i = nsEnd cs k (rdMore cs (cs.length + 1) [x] e) := by
      subst hj hk
      unfold rdNames
      rw [hn]
      dsimp only
      unfold nsEnd
      cases rdMore cs (cs.length + 1) [x] e <;> rfl
    rw [er] at hR hX
    have he := (rdName_ok hn).2.1
    refine q_asgT (ev_callP (d := .tup [.str x, .int (e : Int)]) (ea2 (ev_var rfl) (ev_var rfl)) ⟨_, _, rfl, cs, j, rfl, rfl, hs, rfl, by rw [hn]; rfl⟩) at_t2 ?_
    refine q_asg (w := .val (.tup (stD [x]))) (ev_tup (ds := stD [x]) (ea1 (ev_var rfl)) (Nat.le_of_ble_eq_true rfl)) ?_
    refine q_while (fun m ro ka => ∃ (ns : List Str) (e2 : Nat) (v3 : Option W), m = cs.length - e2 ∧ e2 ≤ cs.length ∧ ns.length ≤ e2 + 1 ∧ ro = [some (.val (.str (tx cs))), some (.val (.int (e2 : Int))), some (.val (.str (kdS k))), v3, some (.val (.tup (stD ns)))] ∧ ka = [] ∧ rdMore cs (cs.length + 1) [x] e = rdMore cs (cs.length + 1) ns e2) (cs.length - e) ⟨[x], e, _, rfl, he, by rw [List.length_singleton]; omega, rfl, rfl, rfl⟩ (fun m ro2 ka2 ⟨ns, e2, v3, em, hle, hns, e1, e2', hq⟩ => ?_)
    subst e1 e2'
    refine ⟨decide (cs[e2]? = some 32), [], (et_test (ev_eqS (ev_callP (ea2 (ev_var rfl) (ev_var rfl)) ⟨_, _, rfl, cs, e2, rfl, rfl, hs, rfl, rfl⟩) ev_str)).to (sgS_eq cs e2 32), fun hb => ?_, fun hb => ?_⟩
    · have hb := of_decide_eq_true hb
      have hlt := (List.getElem?_eq_some_iff.mp hb).1
      have un : rdMore cs (cs.length + 1) ns e2 = (match rdName cs (e2 + 1) with
        | .ok (x, e) => rdMore cs cs.length (ns ++ [x]) e
        | .error p => .error p) := if_pos hb
      have call : EvA K (tCons (tVar 0) (tCons (tOp (rAddU K) (tVar 1) (tC (.int 1))) tNil)) [some (.val (.str (tx cs))), some (.val (.int (e2 : Int))), some (.val (.str (kdS k))), v3, some (.val (.tup (stD ns)))] [] [.val (.str (tx cs)), .val (.int ((e2 + 1 : Nat) : Int))] [] := ea2 (ev_var rfl) (EvD.to (ev_addI (ev_var rfl) ev_int) rfl)
      rw [un] at hq
      cases hn2 : rdName cs (e2 + 1) with
      | error p =>
        rw [hn2] at hq
        rw [hq] at hX
        exact q_asgP hX (evx_call (k2 := []) (kr := []) (k3 := []) call ⟨_, _, rfl, cs, e2 + 1, rfl, rfl, hs, rfl, by rw [hn2]; rfl⟩ rfl) ⟨rfl, rfl⟩
      | ok z =>
        obtain ⟨y, e3⟩ := z
        rw [hn2] at hq
        have hy := rdName_ok hn2
        refine q_asgT (ev_callP (d := .tup [.str y, .int (e3 : Int)]) call ⟨_, _, rfl, cs, e2 + 1, rfl, rfl, hs, rfl, by rw [hn2]; rfl⟩) at_t2 ?_
        refine g_asg (w := .val (.tup (stD (ns ++ [y])))) (EvD.to (ev_catT (es := stD [y]) (ev_var rfl) (ev_tup (ds := stD [y]) (ea1 (ev_var rfl)) (Nat.le_of_ble_eq_true rfl)) ?_) ?_) (g_jp ⟨cs.length - e3, by omega, ns ++ [y], e3, _, rfl, hy.2.1, ?_, rfl, rfl, ?_⟩)
        · rw [stD_len]
          show ns.length + 1 ≤ _
          omega
        · rw [stD_app]
        · rw [List.length_append, List.length_singleton]
          omega
        · rw [hq]
          exact rdMore_fuel cs _ _ _ _ (by omega) (by omega)
    · have hb := of_decide_eq_false hb
      have un : rdMore cs (cs.length + 1) ns e2 = .ok (ns, e2) := if_neg hb
      rw [hq, un] at hR hX
      refine q_when (b := !decide (cs[e2]? = some 93)) ((et_test (ev_neS (ev_callP (ea2 (ev_var rfl) (ev_var rfl)) ⟨_, _, rfl, cs, e2, rfl, rfl, hs, rfl, rfl⟩) ev_str)).to (congrArg (fun z => !z) (sgS_eq cs e2 93))) (fun h => ?_) (fun h => ?_)
      · have h : ¬ cs[e2]? = some 93 := by simpa using h
        have : nsEnd cs k (.ok (ns, e2)) = .error e2 := if_neg h
        rw [this] at hX
        exact g_raise1 hX (ea1 (ev_var rfl)) Z_BadText.xc.oex Z_BadText.no ⟨rfl, rfl⟩
      · have h : cs[e2]? = some 93 := by simpa using h
        have : nsEnd cs k (.ok (ns, e2)) = .ok (.at k ns, e2 + 1) := if_pos h
        rw [this] at hR
        exact g_ret hR (ev_tup (ds := [(Tr.at k ns).d false, .int ((e2 + 1 : Nat) : Int)]) (ea2 (ev_tup (ds := [.str (kdS k), .tup (stD ns)]) (ea2 (ev_var rfl) (ev_var rfl)) (Nat.le_of_ble_eq_true rfl)) (EvD.to (ev_addI (ev_var rfl) ev_int) rfl)) (Nat.le_of_ble_eq_true rfl)) ⟨rfl, rfl⟩
end
def ct_read_item (d : Nat) (K : PySem.W.Frag) : Ct := Ct2 fun a b ka out => ∃ (cs : List Nat) (i : Nat) (r : Rdg Tr), a = .val (.str (tx cs)) ∧ b = .val (.int (i : Int)) ∧ cs.length ≤ 3000 ∧ rdItem (rdGroup cs d) cs i = some r ∧ ka = [] ∧ out = trO K r
section
variable {P : Program} {w : World} {K : PySem.W.Frag} {mg : Str → Option Value} {base : Heap}
end
def ct_read_row (d : Nat) (K : PySem.W.Frag) : Ct := Ct2 fun a b ka out => ∃ (cs : List Nat) (i : Nat) (r : Rdg Tr), a = .val (.str (tx cs)) ∧ b = .val (.int (i : Int)) ∧ cs.length ≤ 3000 ∧ rdRow (rdItem (rdGroup cs d) cs) cs i = some r ∧ ka = [] ∧ out = trO K r
section
variable {P : Program} {w : World} {K : PySem.W.Frag} {mg : Str → Option Value} {base : Heap}
end
def ct_read_group (d : Nat) (K : PySem.W.Frag) : Ct := Ct2 fun a b ka out => ∃ (cs : List Nat) (i : Nat) (r : Rdg Tr), a = .val (.str (tx cs)) ∧ b = .val (.int (i : Int)) ∧ cs.length ≤ 3000 ∧ rdGroup cs d i = some r ∧ ka = [] ∧ out = trO K r
theorem ct_read_group_zero (K : PySem.W.Frag) : ∀ ws ka out, ¬ ct_read_group 0 K ws ka out := fun ws ka out ⟨_, _, _, cs, i, r, _, _, _, h, _⟩ => by cases h
section
variable {P : Program} {w : World} {K : PySem.W.Frag} {mg : Str → Option Value} {base : Heap}
theorem ok_read_item (T : Tx K mg w) (F_sign_at : Fn P w K mg base 4 (He.ga K "sign_at") ["text", "at"] (ct_sign_at K)) (F_read_name : Fn P w K mg base 6 (He.ga K "read_name") ["text", "at"] (ct_read_name K)) (F_read_names : Fn P w K mg base 8 (He.ga K "read_names") ["text", "at"] (ct_read_names K)) {d : Nat} (F_read_group : Fn P w K mg base (3 * d + 10) (He.ga K "read_group") ["text", "at"] (ct_read_group d K)) : Fn P w K mg base (3 * d + 11) (He.ga K "read_item") ["text", "at"] (ct_read_item d K) := by
  obtain ⟨fd, F⟩ := T.d_read_item
  refine fn_ok F sc_read_item (fun _ _ _ _ _ _ us hl => match us, hl with | [_, _], _ => rfl) ct2_len (fun cdv A outer s H E hr => ⟨_, (pss_cons (ps_set (i := 2) sc_read_item.nd rfl (by first | exact Or.inl rfl | exact Or.inr rfl) (pe_call (F_sign_at.up (by omega)).ok hr rfl T.g_sign_at.1 T.g_sign_at.2 (F_sign_at.up (by omega)).bn .nil (pass_own rfl rfl rfl rfl) (pa_cons (pv 0) (pa_cons (pv 1) pa_nil))))
      (pss_cons (ps_if (pt_cmpR (op_eqP (by have := (hr).units; exact this)) (pv 2) pe_str (nomark _))
      (pss_one (ps_ret (pe_tup (pa_cons (pe_tup (pa_cons pe_str (pa_cons (pe_tup pa_nil) pa_nil))) (pa_cons (pe_op op_addU (pv 1) pe_int) pa_nil)))))
      pss_nil)
      (pss_cons (ps_if (pt_cmpR (op_eqP (by have := (hr).units; exact this)) (pv 2) pe_str (nomark _))
      (pss_one (ps_ret (pe_call (F_read_names.up (by omega)).ok hr rfl T.g_read_names.1 T.g_read_names.2 (F_read_names.up (by omega)).bn .nil (pass_own rfl rfl rfl rfl) (pa_cons (pv 0) (pa_cons (pe_op op_addU (pv 1) pe_int) pa_nil)))))
      pss_nil)
      (pss_cons (ps_if (pt_cmpR (op_eqP (by have := (hr).units; exact this)) (pv 2) pe_str (nomark _))
      (pss_one (ps_ret (pe_call (F_read_group.up (by omega)).ok hr rfl T.g_read_group.1 T.g_read_group.2 (F_read_group.up (by omega)).bn .nil (pass_own rfl rfl rfl rfl) (pa_cons (pv 0) (pa_cons (pe_op op_addU (pv 1) pe_int) pa_nil)))))
      pss_nil)
      (pss_cons (ps_asg (pe_call (F_read_name.up (by omega)).ok hr rfl T.g_read_name.1 T.g_read_name.2 (F_read_name.up (by omega)).bn .nil (pass_own rfl rfl rfl rfl) (pa_cons (pv 0) (pa_cons (pv 1) pa_nil))) (pg_tup rfl (pgs_cons (pg_name (i := 3) sc_read_item.nd rfl (by first | exact Or.inl rfl | exact Or.inr rfl)) (pgs_cons (pg_name (i := 1) sc_read_item.nd rfl (by first | exact Or.inl rfl | exact Or.inr rfl)) pgs_nil))))
      (pss_one (ps_ret (pe_tup (pa_cons (pe_tup (pa_cons pe_str (pa_cons (pe_tup (pa_cons (pv 3) pa_nil)) pa_nil))) (pa_cons (pv 1) pa_nil)))))))))), fun ws ka out B F0 Q hC hR hX => ?_⟩)
  obtain ⟨a, b, rfl, cs, i, r, rfl, rfl, hs, hr2, rfl, rfl⟩ := hC
  unfold rdItem at hr2
  refine q_asg (w := .val (.str (sgS cs i))) (ev_callP (ea2 (ev_var rfl) (ev_var rfl)) ⟨_, _, rfl, cs, i, rfl, rfl, hs, rfl, rfl⟩) ?_
  refine q_when (b := decide (cs[i]? = some 46)) ((et_test (ev_eqS (ev_var rfl) ev_str)).to (sgS_eq cs i 46)) (fun h => ?_) (fun h => ?_)
  · rw [if_pos (of_decide_eq_true h)] at hr2
    obtain rfl := Option.some.inj hr2
    exact g_ret hR (ev_tup (ds := [(Tr.at false []).d false, .int ((i + 1 : Nat) : Int)]) (ea2 (ev_tup (ds := [.str "none", .tup []]) (ea2 ev_str (ev_tup (ds := []) ea_nil (Nat.le_of_ble_eq_true rfl))) (Nat.le_of_ble_eq_true rfl)) (EvD.to (ev_addI (ev_var rfl) ev_int) rfl)) (Nat.le_of_ble_eq_true rfl)) ⟨rfl, rfl⟩
  rw [if_neg (of_decide_eq_false h)] at hr2
  have call : EvA K (tCons (tVar 0) (tCons (tOp (rAddU K) (tVar 1) (tC (.int 1))) tNil)) [some (.val (.str (tx cs))), some (.val (.int (i : Int))), some (.val (.str (sgS cs i))), none] [] [.val (.str (tx cs)), .val (.int ((i + 1 : Nat) : Int))] [] := ea2 (ev_var rfl) (EvD.to (ev_addI (ev_var rfl) ev_int) rfl)
  refine q_when (b := decide (cs[i]? = some 91)) ((et_test (ev_eqS (ev_var rfl) ev_str)).to (sgS_eq cs i 91)) (fun h => ?_) (fun h => ?_)
  · rw [if_pos (of_decide_eq_true h)] at hr2
    obtain rfl := Option.some.inj hr2
    cases hn : rdNames cs (i + 1) with
    | error p =>
      rw [hn] at hX
      exact g_retPX hX (evx_call (k2 := []) (kr := []) (k3 := []) call ⟨_, _, rfl, cs, i + 1, rfl, rfl, hs, rfl, by rw [hn]; rfl⟩ rfl) ⟨rfl, rfl⟩
    | ok z =>
      rw [hn] at hR
      exact g_ret hR (ev_callP (d := .tup [z.1.d false, .int (z.2 : Int)]) call ⟨_, _, rfl, cs, i + 1, rfl, rfl, hs, rfl, by rw [hn]; rfl⟩) ⟨rfl, rfl⟩
  rw [if_neg (of_decide_eq_false h)] at hr2
  refine q_when (b := decide (cs[i]? = some 40)) ((et_test (ev_eqS (ev_var rfl) ev_str)).to (sgS_eq cs i 40)) (fun h => ?_) (fun h => ?_)
  · rw [if_pos (of_decide_eq_true h)] at hr2
    cases r with
    | error p => exact g_retPX hX (evx_call (k2 := []) (kr := []) (k3 := []) call ⟨_, _, rfl, cs, i + 1, _, rfl, rfl, hs, hr2, rfl, rfl⟩ rfl) ⟨rfl, rfl⟩
    | ok z => exact g_ret hR (ev_callP (d := .tup [z.1.d false, .int (z.2 : Int)]) call ⟨_, _, rfl, cs, i + 1, _, rfl, rfl, hs, hr2, rfl, rfl⟩) ⟨rfl, rfl⟩
  rw [if_neg (of_decide_eq_false h)] at hr2
  cases hn : rdName cs i with
  | error p =>
    rw [hn] at hr2
    obtain rfl := Option.some.inj hr2
    exact q_asgP hX (evx_call (k2 := []) (kr := []) (k3 := []) (ea2 (ev_var rfl) (ev_var rfl)) ⟨_, _, rfl, cs, i, rfl, rfl, hs, rfl, by rw [hn]; rfl⟩ rfl) ⟨rfl, rfl⟩
  | ok z =>
    obtain ⟨x, e⟩ := z
    rw [hn] at hr2
    obtain rfl := Option.some.inj hr2
    refine q_asgT (ev_callP (d := .tup [.str x, .int (e : Int)]) (ea2 (ev_var rfl) (ev_var rfl)) ⟨_, _, rfl, cs, i, rfl, rfl, hs, rfl, by rw [hn]; rfl⟩) at_t2 ?_
    exact g_ret hR (ev_tup (ds := [(Tr.at true [x]).d false, .int (e : Int)]) (ea2 (ev_tup (ds := [.str "any", .tup [.str x]]) (ea2 ev_str (ev_tup (ds := [.str x]) (ea1 (ev_var rfl)) (Nat.le_of_ble_eq_true rfl))) (Nat.le_of_ble_eq_true rfl)) (ev_var rfl)) (Nat.le_of_ble_eq_true rfl)) ⟨rfl, rfl⟩
theorem ok_read_row (T : Tx K mg w) (F_sign_at : Fn P w K mg base 4 (He.ga K "sign_at") ["text", "at"] (ct_sign_at K)) {d : Nat} (F_read_item : Fn P w K mg base (3 * d + 11) (He.ga K "read_item") ["text", "at"] (ct_read_item d K)) : Fn P w K mg base (3 * d + 12) (He.ga K "read_row") ["text", "at"] (ct_read_row d K) := by
  obtain ⟨fd, F⟩ := T.d_read_row
  refine fn_ok F sc_read_row (fun _ _ _ _ _ _ us hl => match us, hl with | [_, _], _ => rfl) ct2_len (fun cdv A outer s H E hr => ⟨_, (pss_cons (ps_asg (pe_call (F_read_item.up (by omega)).ok hr rfl T.g_read_item.1 T.g_read_item.2 (F_read_item.up (by omega)).bn .nil (pass_own rfl rfl rfl rfl) (pa_cons (pv 0) (pa_cons (pv 1) pa_nil))) (pg_tup rfl (pgs_cons (pg_name (i := 2) sc_read_row.nd rfl (by first | exact Or.inl rfl | exact Or.inr rfl)) (pgs_cons (pg_name (i := 1) sc_read_row.nd rfl (by first | exact Or.inl rfl | exact Or.inr rfl)) pgs_nil))))
      (pss_cons (ps_while (passes_of rfl) (PW.pt (pw_and (pt_cmpR (op_eqP (by have := (hr).units; exact this)) (pe_call (F_sign_at.up (by omega)).ok hr rfl T.g_sign_at.1 T.g_sign_at.2 (F_sign_at.up (by omega)).bn .nil (pass_own rfl rfl rfl rfl) (pa_cons (pv 0) (pa_cons (pv 1) pa_nil))) pe_str (nomark _)) (pw_and1 (pt_cmpR (op_neP (by have := (hr).units; exact this)) (pe_call (F_sign_at.up (by omega)).ok hr rfl T.g_sign_at.1 T.g_sign_at.2 (F_sign_at.up (by omega)).bn .nil (pass_own rfl rfl rfl rfl) (pa_cons (pv 0) (pa_cons (pe_op op_addU (pv 1) pe_int) pa_nil))) pe_str (nomark _))))) (pss_cons (ps_asg (pe_call (F_read_item.up (by omega)).ok hr rfl T.g_read_item.1 T.g_read_item.2 (F_read_item.up (by omega)).bn .nil (pass_own rfl rfl rfl rfl) (pa_cons (pv 0) (pa_cons (pe_op op_addU (pv 1) pe_int) pa_nil))) (pg_tup rfl (pgs_cons (pg_name (i := 3) sc_read_row.nd rfl (by first | exact Or.inl rfl | exact Or.inr rfl)) (pgs_cons (pg_name (i := 1) sc_read_row.nd rfl (by first | exact Or.inl rfl | exact Or.inr rfl)) pgs_nil))))
      (pss_one (ps_set (i := 2) sc_read_row.nd rfl (by first | exact Or.inl rfl | exact Or.inr rfl) (pe_tup (pa_cons pe_str (pa_cons (pv 2) (pa_cons (pv 3) pa_nil))))))))
      (pss_one (ps_ret (pe_tup (pa_cons (pv 2) (pa_cons (pv 1) pa_nil))))))), fun ws ka out B F0 Q hC hR hX => ?_⟩)
  obtain ⟨a, b, rfl, cs, i, r, rfl, rfl, hs, hr2, rfl, rfl⟩ := hC
  have good := rdItem_ok (rdGroup_ok cs d)
  unfold rdRow at hr2
  cases hn : rdItem (rdGroup cs d) cs i with
  | none => rw [hn] at hr2; cases hr2
  | some z =>
    rw [hn] at hr2
    cases z with
    | error p =>
      obtain rfl := Option.some.inj hr2
      exact q_asgP hX (evx_call (k2 := []) (kr := []) (k3 := []) (ea2 (ev_var rfl) (ev_var rfl)) ⟨_, _, rfl, cs, i, _, rfl, rfl, hs, hn, rfl, rfl⟩ rfl) ⟨rfl, rfl⟩
    | ok z =>
      obtain ⟨t, e⟩ := z
      replace hr2 : rdRest (rdItem (rdGroup cs d) cs) cs (cs.length + 1) t e = some r := hr2
      have hte := (good _ _ _ hn).le
      refine q_asgT (ev_callP (d := .tup [t.d false, .int (e : Int)]) (ea2 (ev_var rfl) (ev_var rfl)) ⟨_, _, rfl, cs, i, _, rfl, rfl, hs, hn, rfl, rfl⟩) at_t2 ?_
      refine q_while (fun m ro ka => ∃ (u : Tr) (e2 : Nat) (v3 : Option W), m = cs.length - e2 ∧ e2 ≤ cs.length ∧ ro = [some (.val (.str (tx cs))), some (.val (.int (e2 : Int))), some (.val (u.d false)), v3] ∧ ka = [] ∧ rdRest (rdItem (rdGroup cs d) cs) cs (cs.length + 1) u e2 = some r) (cs.length - e) ⟨t, e, _, rfl, hte, rfl, rfl, hr2⟩ (fun m ro2 ka2 ⟨u, e2, v3, em, hle, e1, e2', hq⟩ => ?_)
      subst e1 e2'
      have call : EvA K (tCons (tVar 0) (tCons (tOp (rAddU K) (tVar 1) (tC (.int 1))) tNil)) [some (.val (.str (tx cs))), some (.val (.int (e2 : Int))), some (.val (u.d false)), v3] [] [.val (.str (tx cs)), .val (.int ((e2 + 1 : Nat) : Int))] [] := ea2 (ev_var rfl) (EvD.to (ev_addI (ev_var rfl) ev_int) rfl)
      refine ⟨decide (cs[e2]? = some 32) && !decide (cs[e2 + 1]? = some 124), [], et_and ((et_test (ev_eqS (ev_callP (ea2 (ev_var rfl) (ev_var rfl)) ⟨_, _, rfl, cs, e2, rfl, rfl, hs, rfl, rfl⟩) ev_str)).to (sgS_eq cs e2 32)) (fun _ => (et_test (ev_neS (ev_callP call ⟨_, _, rfl, cs, e2 + 1, rfl, rfl, hs, rfl, rfl⟩) ev_str)).to (congrArg (fun z => !z) (sgS_eq cs (e2 + 1) 124))), fun hb => ?_, fun hb => ?_⟩
      · have hb : cs[e2]? = some 32 ∧ cs[e2 + 1]? ≠ some 124 := by simpa using hb
        have hlt := (List.getElem?_eq_some_iff.mp hb.1).1
        have un : rdRest (rdItem (rdGroup cs d) cs) cs (cs.length + 1) u e2 = (match rdItem (rdGroup cs d) cs (e2 + 1) with
          | some (.ok (v, e)) => rdRest (rdItem (rdGroup cs d) cs) cs cs.length (.join u v) e
          | r => r) := if_pos hb
        rw [un] at hq
        cases hn2 : rdItem (rdGroup cs d) cs (e2 + 1) with
        | none => rw [hn2] at hq; cases hq
        | some z =>
          rw [hn2] at hq
          cases z with
          | error p =>
            obtain rfl := Option.some.inj hq
            exact q_asgP hX (evx_call (k2 := []) (kr := []) (k3 := []) call ⟨_, _, rfl, cs, e2 + 1, _, rfl, rfl, hs, hn2, rfl, rfl⟩ rfl) ⟨rfl, rfl⟩
          | ok z =>
            obtain ⟨v, e3⟩ := z
            replace hq : rdRest (rdItem (rdGroup cs d) cs) cs cs.length (.join u v) e3 = some r := hq
            have ok := good _ _ _ hn2
            have h1 := ok.lt
            have h2 := ok.le
            refine q_asgT (ev_callP (d := .tup [v.d false, .int (e3 : Int)]) call ⟨_, _, rfl, cs, e2 + 1, _, rfl, rfl, hs, hn2, rfl, rfl⟩) at_t2 ?_
            refine g_asg (w := .val ((Tr.join u v).d false)) (ev_tup (ds := [.str "join", u.d false, v.d false]) (ea_cons ev_str (ea2 (ev_var rfl) (ev_var rfl))) (Nat.le_of_ble_eq_true rfl)) (g_jp ⟨cs.length - e3, by omega, .join u v, e3, _, rfl, h2, rfl, rfl, ?_⟩)
            rw [← hq]
            exact rdRest_fuel good _ _ _ _ (by omega) (by omega) h2
      · have hb : ¬ (cs[e2]? = some 32 ∧ cs[e2 + 1]? ≠ some 124) := by
          intro h
          rw [decide_eq_true h.1, decide_eq_false h.2] at hb
          cases hb
        have un : rdRest (rdItem (rdGroup cs d) cs) cs (cs.length + 1) u e2 = some (.ok (u, e2)) := if_neg hb
        rw [un] at hq
        obtain rfl := Option.some.inj hq
        exact g_ret hR (ev_tup (ds := [u.d false, .int (e2 : Int)]) (ea2 (ev_var rfl) (ev_var rfl)) (Nat.le_of_ble_eq_true rfl)) ⟨rfl, rfl⟩
theorem ok_read_group (T : Tx K mg w) (F_sign_at : Fn P w K mg base 4 (He.ga K "sign_at") ["text", "at"] (ct_sign_at K)) (F_expect : Fn P w K mg base 6 (He.ga K "expect") ["text", "at", "wanted"] (ct_expect K)) (F_behind_row : Fn P w K mg base 6 (He.ga K "behind_row") ["text", "at"] (ct_behind_row K)) (F_read_name : Fn P w K mg base 6 (He.ga K "read_name") ["text", "at"] (ct_read_name K)) (F_read_names : Fn P w K mg base 8 (He.ga K "read_names") ["text", "at"] (ct_read_names K)) (Z_BadText : Xn P w K mg base (He.ga K "BadText") "place") : ∀ d : Nat, Fn P w K mg base (3 * d + 10) (He.ga K "read_group") ["text", "at"] (ct_read_group d K) := by
  obtain ⟨fd, F⟩ := T.d_read_group
  intro d
  induction d with
  | zero => exact fn_vac F sc_read_group (fun _ _ _ _ _ _ us hl => match us, hl with | [_, _], _ => rfl) (ct_read_group_zero K)
  | succ d F_read_group => ?_
  have F_read_item := ok_read_item T F_sign_at F_read_name F_read_names (d := d) F_read_group
  have F_read_row := ok_read_row T F_sign_at (d := d) F_read_item
  refine fn_ok F sc_read_group (fun _ _ _ _ _ _ us hl => match us, hl with | [_, _], _ => rfl) ct2_len (fun cdv A outer s H E hr => ⟨_, (pss_cons (ps_asg (pe_call (F_read_row.up (by omega)).ok hr rfl T.g_read_row.1 T.g_read_row.2 (F_read_row.up (by omega)).bn .nil (pass_own rfl rfl rfl rfl) (pa_cons (pv 0) (pa_cons (pv 1) pa_nil))) (pg_tup rfl (pgs_cons (pg_name (i := 2) sc_read_group.nd rfl (by first | exact Or.inl rfl | exact Or.inr rfl)) (pgs_cons (pg_name (i := 1) sc_read_group.nd rfl (by first | exact Or.inl rfl | exact Or.inr rfl)) pgs_nil))))
      (pss_cons (ps_if (pt_cmpR (op_eqP (by have := (hr).units; exact this)) (pe_call (F_sign_at.up (by omega)).ok hr rfl T.g_sign_at.1 T.g_sign_at.2 (F_sign_at.up (by omega)).bn .nil (pass_own rfl rfl rfl rfl) (pa_cons (pv 0) (pa_cons (pv 1) pa_nil))) pe_str (nomark _))
      (pss_cons (ps_asg (pe_call (F_read_row.up (by omega)).ok hr rfl T.g_read_row.1 T.g_read_row.2 (F_read_row.up (by omega)).bn .nil (pass_own rfl rfl rfl rfl) (pa_cons (pv 0) (pa_cons (pe_call (F_expect.up (by omega)).ok hr rfl T.g_expect.1 T.g_expect.2 (F_expect.up (by omega)).bn .nil (pass_own rfl rfl rfl rfl) (pa_cons (pv 0) (pa_cons (pv 1) (pa_cons pe_str pa_nil)))) pa_nil))) (pg_tup rfl (pgs_cons (pg_name (i := 3) sc_read_group.nd rfl (by first | exact Or.inl rfl | exact Or.inr rfl)) (pgs_cons (pg_name (i := 1) sc_read_group.nd rfl (by first | exact Or.inl rfl | exact Or.inr rfl)) pgs_nil))))
      (pss_one (ps_ret (pe_tup (pa_cons (pe_tup (pa_cons pe_str (pa_cons (pv 2) (pa_cons (pv 3) pa_nil)))) (pa_cons (pe_call (F_expect.up (by omega)).ok hr rfl T.g_expect.1 T.g_expect.2 (F_expect.up (by omega)).bn .nil (pass_own rfl rfl rfl rfl) (pa_cons (pv 0) (pa_cons (pe_call (F_behind_row.up (by omega)).ok hr rfl T.g_behind_row.1 T.g_behind_row.2 (F_behind_row.up (by omega)).bn .nil (pass_own rfl rfl rfl rfl) (pa_cons (pv 0) (pa_cons (pv 1) pa_nil))) (pa_cons pe_str pa_nil)))) pa_nil))))))
      pss_nil)
      (pss_cons (ps_set (i := 1) sc_read_group.nd rfl (by first | exact Or.inl rfl | exact Or.inr rfl) (pe_call (F_expect.up (by omega)).ok hr rfl T.g_expect.1 T.g_expect.2 (F_expect.up (by omega)).bn .nil (pass_own rfl rfl rfl rfl) (pa_cons (pv 0) (pa_cons (pv 1) (pa_cons pe_str pa_nil)))))
      (pss_cons (ps_if (pt_cmpR (op_niTab T.tab_ENDS) (pe_call (F_sign_at.up (by omega)).ok hr rfl T.g_sign_at.1 T.g_sign_at.2 (F_sign_at.up (by omega)).bn .nil (pass_own rfl rfl rfl rfl) (pa_cons (pv 0) (pa_cons (pv 1) pa_nil))) (pe_glob (v := .ref (He.ga K "ENDS")) rfl T.tg_ENDS rfl) (by with_unfolding_all rfl))
      (pss_one (ps_raise rfl (takes_of rfl rfl rfl rfl) (pmk_oex Z_BadText.xc.oex Z_BadText.all.1 Z_BadText.all.2.1 Z_BadText.all.2.2.1 (hr.mono (by omega)) Z_BadText.all.2.2.2 .nil passes_no rfl T.g_BadText.1 (pa_cons (pv 1) pa_nil))))
      pss_nil)
      (pss_one (ps_ret (pe_tup (pa_cons (pe_tup (pa_cons (pe_ix (ix_tab T.tab_ENDS) (pe_glob (v := .ref (He.ga K "ENDS")) rfl T.tg_ENDS rfl) (pe_ix ix_seq (pv 0) (pv 1) fun _ _ => rfl) fun _ _ => rfl) (pa_cons (pv 2) pa_nil))) (pa_cons (pe_op op_addU (pv 1) pe_int) pa_nil))))))))), fun ws ka out B F0 Q hC hR hX => ?_⟩)
  obtain ⟨a, b, rfl, cs, i, r, rfl, rfl, hs, hr2, rfl, rfl⟩ := hC
  have good := rdRow_ok (rdItem_ok (rdGroup_ok cs d))
  unfold rdGroup at hr2
  cases hn : rdRow (rdItem (rdGroup cs d) cs) cs i with
  | none => rw [hn] at hr2; cases hr2
  | some z =>
    rw [hn] at hr2
    cases z with
    | error p =>
      obtain rfl := Option.some.inj hr2
      exact q_asgP hX (evx_call (k2 := []) (kr := []) (k3 := []) (ea2 (ev_var rfl) (ev_var rfl)) ⟨_, _, rfl, cs, i, _, rfl, rfl, hs, hn, rfl, rfl⟩ rfl) ⟨rfl, rfl⟩
    | ok z =>
      obtain ⟨t, e⟩ := z
      dsimp only at hr2
      refine q_asgT (ev_callP (d := .tup [t.d false, .int (e : Int)]) (ea2 (ev_var rfl) (ev_var rfl)) ⟨_, _, rfl, cs, i, _, rfl, rfl, hs, hn, rfl, rfl⟩) at_t2 ?_
      refine q_when (b := decide (cs[e]? = some 32)) ((et_test (ev_eqS (ev_callP (ea2 (ev_var rfl) (ev_var rfl)) ⟨_, _, rfl, cs, e, rfl, rfl, hs, rfl, rfl⟩) ev_str)).to (sgS_eq cs e 32)) (fun h => ?_) (fun h => ?_)
      · rw [if_pos (of_decide_eq_true h)] at hr2
        cases hx : expC cs e [32, 124, 32] with
        | error p =>
          rw [hx] at hr2
          obtain rfl := Option.some.inj hr2
          exact q_asgP hX (evx_arg2 (ev_var rfl) (evx_call (k2 := []) (kr := []) (k3 := []) (ea_cons (ev_var rfl) (ea2 (ev_var rfl) ev_str)) ⟨_, _, _, rfl, cs, [32, 124, 32], e, rfl, rfl, rfl, hs, rfl, by rw [hx]; rfl⟩ rfl)) ⟨rfl, rfl⟩
        | ok e1 =>
          rw [hx] at hr2
          dsimp only at hr2
          have call : ∀ {E1 : XK}, EvA K (tCons (tVar 0) (tCons (tCall (spC K (ct_expect K)) [] E1 (tCons (tVar 0) (tCons (tVar 1) (tCons (tC (.str " | ")) tNil)))) tNil)) [some (.val (.str (tx cs))), some (.val (.int (e : Int))), some (.val (t.d false)), none] [] [.val (.str (tx cs)), .val (.int (e1 : Int))] [] := ea2 (ev_var rfl) (ev_callP (d := .int (e1 : Int)) (ea_cons (ev_var rfl) (ea2 (ev_var rfl) ev_str)) ⟨_, _, _, rfl, cs, [32, 124, 32], e, rfl, rfl, rfl, hs, rfl, by rw [hx]; rfl⟩)
          cases hn2 : rdRow (rdItem (rdGroup cs d) cs) cs e1 with
          | none => rw [hn2] at hr2; cases hr2
          | some z =>
            rw [hn2] at hr2
            cases z with
            | error p =>
              obtain rfl := Option.some.inj hr2
              exact q_asgP hX (evx_call (k2 := []) (kr := []) (k3 := []) call ⟨_, _, rfl, cs, e1, _, rfl, rfl, hs, hn2, rfl, rfl⟩ rfl) ⟨rfl, rfl⟩
            | ok z =>
              obtain ⟨u, e2⟩ := z
              dsimp only at hr2
              refine q_asgT (ev_callP (d := .tup [u.d false, .int (e2 : Int)]) call ⟨_, _, rfl, cs, e1, _, rfl, rfl, hs, hn2, rfl, rfl⟩) at_t2 ?_
              have tree : EvD K (tTup (tCons (tC (.str "either")) (tCons (tVar 2) (tCons (tVar 3) tNil)))) [some (.val (.str (tx cs))), some (.val (.int (e2 : Int))), some (.val (t.d false)), some (.val (u.d false))] [] (.val ((Tr.either t u).d false)) [] := ev_tup (ds := [.str "either", t.d false, u.d false]) (ea_cons ev_str (ea2 (ev_var rfl) (ev_var rfl))) (Nat.le_of_ble_eq_true rfl)
              have beh : ∀ {E1 : XK}, EvA K (tCons (tVar 0) (tCons (tCall (spC K (ct_behind_row K)) [] E1 (tCons (tVar 0) (tCons (tVar 1) tNil))) (tCons (tC (.str ")")) tNil))) [some (.val (.str (tx cs))), some (.val (.int (e2 : Int))), some (.val (t.d false)), some (.val (u.d false))] [] [.val (.str (tx cs)), .val (.int (behC cs e2 : Int)), .val (.str (tx [41]))] [] := ea_cons (ev_var rfl) (ea2 (ev_callP (ea2 (ev_var rfl) (ev_var rfl)) ⟨_, _, rfl, cs, e2, rfl, rfl, hs, rfl, rfl⟩) ev_str)
              cases hy : expC cs (behC cs e2) [41] with
              | error p =>
                rw [hy] at hr2
                obtain rfl := Option.some.inj hr2
                exact g_retPX hX (evx_snd tree (evx_call (k2 := []) (kr := []) (k3 := []) beh ⟨_, _, _, rfl, cs, [41], _, rfl, rfl, rfl, hs, rfl, by rw [hy]; rfl⟩ rfl)) ⟨rfl, rfl⟩
              | ok e3 =>
                rw [hy] at hr2
                obtain rfl := Option.some.inj hr2
                exact g_ret hR (ev_tup (ds := [(Tr.either t u).d false, .int (e3 : Int)]) (ea2 tree (ev_callP (d := .int (e3 : Int)) beh ⟨_, _, _, rfl, cs, [41], _, rfl, rfl, rfl, hs, rfl, by rw [hy]; rfl⟩)) (Nat.le_of_ble_eq_true rfl)) ⟨rfl, rfl⟩
      · rw [if_neg (of_decide_eq_false h)] at hr2
        cases hx : expC cs e [41] with
        | error p =>
          rw [hx] at hr2
          obtain rfl := Option.some.inj hr2
          exact q_asgP hX (evx_call (k2 := []) (kr := []) (k3 := []) (ea_cons (ev_var rfl) (ea2 (ev_var rfl) ev_str)) ⟨_, _, _, rfl, cs, [41], e, rfl, rfl, rfl, hs, rfl, by rw [hx]; rfl⟩ rfl) ⟨rfl, rfl⟩
        | ok e1 =>
          rw [hx] at hr2
          dsimp only at hr2
          refine q_asg (w := .val (.int (e1 : Int))) (ev_callP (d := .int (e1 : Int)) (ea_cons (ev_var rfl) (ea2 (ev_var rfl) ev_str)) ⟨_, _, _, rfl, cs, [41], e, rfl, rfl, rfl, hs, rfl, by rw [hx]; rfl⟩) ?_
          have hs2 : (tx cs).length ≤ 100000 := by rw [tx_len]; omega
          have ni : (!([("*", "repeat"), ("?", "option")] : List (Str × Str)).any fun p => decide (p.1 = sgS cs e1)) = !(decide (cs[e1]? = some 42) || decide (cs[e1]? = some 63)) := by
            have h1 := sgS_eq cs e1 42
            have h2 := sgS_eq cs e1 63
            have q1 : decide ((("*" : Str)) = sgS cs e1) = decide (cs[e1]? = some 42) := by
              rw [← h1, Bool.eq_iff_iff, decide_eq_true_eq, beq_iff_eq]
              exact eq_comm
            have q2 : decide ((("?" : Str)) = sgS cs e1) = decide (cs[e1]? = some 63) := by
              rw [← h2, Bool.eq_iff_iff, decide_eq_true_eq, beq_iff_eq]
              exact eq_comm
            show (!(decide ((("*" : Str)) = sgS cs e1) || (decide ((("?" : Str)) = sgS cs e1) || false))) = _
            rw [q1, q2, Bool.or_false]
          refine q_when (b := !(decide (cs[e1]? = some 42) || decide (cs[e1]? = some 63))) ((et_test (ev_niTab (ev_callP (ea2 (ev_var rfl) (ev_var rfl)) ⟨_, _, rfl, cs, e1, rfl, rfl, hs, rfl, rfl⟩))).to ni) (fun hb => ?_) (fun hb => ?_)
          · have hb : ¬ cs[e1]? = some 42 ∧ ¬ cs[e1]? = some 63 := by simpa using hb
            rw [if_neg hb.1, if_neg hb.2] at hr2
            obtain rfl := Option.some.inj hr2
            exact g_raise1 hX (ea1 (ev_var rfl)) Z_BadText.xc.oex Z_BadText.no ⟨rfl, rfl⟩
          · by_cases h42 : cs[e1]? = some 42
            · rw [if_pos h42] at hr2
              obtain rfl := Option.some.inj hr2
              exact g_ret hR (ev_tup (ds := [(Tr.rep t).d false, .int ((e1 + 1 : Nat) : Int)]) (ea2 (ev_tup (ds := [.str "repeat", t.d false]) (ea2 (ev_ixTab (p := ("*", "repeat")) List.mem_cons_self (ev_ixS (c := 42) (ev_var rfl) (ev_var rfl) hs2 (atI_nat (j := e1) h42))) (ev_var rfl)) (Nat.le_of_ble_eq_true rfl)) (EvD.to (ev_addI (ev_var rfl) ev_int) rfl)) (Nat.le_of_ble_eq_true rfl)) ⟨rfl, rfl⟩
            · have h63 : cs[e1]? = some 63 := by
                rw [decide_eq_false h42, Bool.false_or, Bool.not_eq_false', decide_eq_true_eq] at hb
                exact hb
              rw [if_neg h42, if_pos h63] at hr2
              obtain rfl := Option.some.inj hr2
              exact g_ret hR (ev_tup (ds := [(Tr.opt t).d false, .int ((e1 + 1 : Nat) : Int)]) (ea2 (ev_tup (ds := [.str "option", t.d false]) (ea2 (ev_ixTab (p := ("?", "option")) (List.mem_cons_of_mem _ List.mem_cons_self) (ev_ixS (c := 63) (ev_var rfl) (ev_var rfl) hs2 (atI_nat (j := e1) h63))) (ev_var rfl)) (Nat.le_of_ble_eq_true rfl)) (EvD.to (ev_addI (ev_var rfl) ev_int) rfl)) (Nat.le_of_ble_eq_true rfl)) ⟨rfl, rfl⟩
end
/-- a tree, or the refusal of a text -/
def ptO (K : PySem.W.Frag) (f : Tr → D) : Except Nat Tr → Oc
  | .ok t => Rt (f t) []
  | .error p => Xt (He.ga K "BadText") [("place", .int (p : Int))] []
def ct_read_pattern (K : PySem.W.Frag) : Ct := Ct1 fun a ka out => ∃ (cs : List Nat) (r : Except Nat Tr), a = .val (.str (tx cs)) ∧ cs.length ≤ 3000 ∧ rdPat 50 cs = some r ∧ ka = [] ∧ out = ptO K (fun t => t.d false) r
section
variable {P : Program} {w : World} {K : PySem.W.Frag} {mg : Str → Option Value} {base : Heap}
theorem ok_read_pattern (T : Tx K mg w) (F_behind_row : Fn P w K mg base 6 (He.ga K "behind_row") ["text", "at"] (ct_behind_row K)) (F_read_row : Fn P w K mg base 162 (He.ga K "read_row") ["text", "at"] (ct_read_row 50 K)) (Z_BadText : Xn P w K mg base (He.ga K "BadText") "place") : Fn P w K mg base 164 (He.ga K "read_pattern") ["text"] (ct_read_pattern K) := by
  obtain ⟨fd, F⟩ := T.d_read_pattern
  refine fn_ok F sc_read_pattern (fun _ _ _ _ _ _ us hl => match us, hl with | [_], _ => rfl) ct1_len (fun cdv A outer s H E hr => ⟨_, (pss_cons (ps_asg (pe_call (F_read_row.up (by decide)).ok hr rfl T.g_read_row.1 T.g_read_row.2 (F_read_row.up (by decide)).bn .nil (pass_own rfl rfl rfl rfl) (pa_cons (pv 0) (pa_cons pe_int pa_nil))) (pg_tup rfl (pgs_cons (pg_name (i := 1) sc_read_pattern.nd rfl (by first | exact Or.inl rfl | exact Or.inr rfl)) (pgs_cons (pg_name (i := 2) sc_read_pattern.nd rfl (by first | exact Or.inl rfl | exact Or.inr rfl)) pgs_nil))))
      (pss_cons (ps_if (pt_cmpR op_lt (pv 2) (pe_callB call_lenU rfl T.n_len (by decide +kernel) (pa_cons (pv 0) pa_nil)) (nomark _))
      (pss_one (ps_raise rfl (takes_of rfl rfl rfl rfl) (pmk_oex Z_BadText.xc.oex Z_BadText.all.1 Z_BadText.all.2.1 Z_BadText.all.2.2.1 (hr.mono (by decide)) Z_BadText.all.2.2.2 .nil passes_no rfl T.g_BadText.1 (pa_cons (pe_call (F_behind_row.up (by decide)).ok hr rfl T.g_behind_row.1 T.g_behind_row.2 (F_behind_row.up (by decide)).bn .nil (pass_own rfl rfl rfl rfl) (pa_cons (pv 0) (pa_cons (pv 2) pa_nil))) pa_nil))))
      pss_nil)
      (pss_one (ps_ret (pv 1))))), fun ws ka out B F0 Q hC hR hX => ?_⟩)
  obtain ⟨a, rfl, cs, r, rfl, hs, hr2, rfl, rfl⟩ := hC
  have hs2 : (tx cs).length ≤ 100000 := by rw [tx_len]; omega
  unfold rdPat at hr2
  cases hn : rdRow (rdItem (rdGroup cs 50) cs) cs 0 with
  | none => rw [hn] at hr2; cases hr2
  | some z =>
    rw [hn] at hr2
    cases z with
    | error p =>
      obtain rfl := Option.some.inj hr2
      exact q_asgP hX (evx_call (k2 := []) (kr := []) (k3 := []) (ea2 (ev_var rfl) ev_int) ⟨_, _, rfl, cs, 0, _, rfl, rfl, hs, hn, rfl, rfl⟩ rfl) ⟨rfl, rfl⟩
    | ok z =>
      obtain ⟨t, e⟩ := z
      dsimp only at hr2
      refine q_asgT (ev_callP (d := .tup [t.d false, .int (e : Int)]) (ea2 (ev_var rfl) ev_int) ⟨_, _, rfl, cs, 0, _, rfl, rfl, hs, hn, rfl, rfl⟩) at_t2 ?_
      refine q_when (b := decide (e < cs.length)) ((et_test (ev_lt (ev_var rfl) (ev_lenS (ev_var rfl) hs2))).to (by rw [tx_len]; exact decide_eq_decide.mpr Int.ofNat_lt)) (fun h => ?_) (fun h => ?_)
      · rw [if_pos (of_decide_eq_true h)] at hr2
        obtain rfl := Option.some.inj hr2
        exact g_raise1 hX (ea1 (ev_callP (ea2 (ev_var rfl) (ev_var rfl)) ⟨_, _, rfl, cs, e, rfl, rfl, hs, rfl, rfl⟩)) Z_BadText.xc.oex Z_BadText.no ⟨rfl, rfl⟩
      · rw [if_neg (of_decide_eq_false h)] at hr2
        obtain rfl := Option.some.inj hr2
        exact g_ret hR (ev_var rfl) ⟨rfl, rfl⟩
end
def ct_Pattern_read (K : PySem.W.Frag) : Ct := Ct2 fun a b ka out => ∃ (cs : List Nat) (r : Except Nat Tr), a = .val (.adr (He.ga K "Pattern")) ∧ b = .val (.str (tx cs)) ∧ cs.length ≤ 3000 ∧ rdPat 50 cs = some r ∧ ka = [] ∧ out = ptO K (fun t => PaD K (t.d false)) r
section
variable {P : Program} {w : World} {K : PySem.W.Frag} {mg : Str → Option Value} {base : Heap}
theorem ok_Pattern_read (T : Tx K mg w) (F_Pattern___init : Fn P w K mg base 4 (He.ma K (He.ga K "Pattern") "__init__") ["self", "tree"] (ct_Pattern___init K)) (F_read_pattern : Fn P w K mg base 164 (He.ga K "read_pattern") ["text"] (ct_read_pattern K)) : Fn P w K mg base 166 (cga K (He.ga K "Pattern") "read") ["cls", "text"] (ct_Pattern_read K) := by
  obtain ⟨fd, F⟩ := T.d_Pattern_read
  refine fn_ok F sc_Pattern_read (fun _ _ _ _ _ _ us hl => match us, hl with | [_, _], _ => rfl) ct2_len (fun cdv A outer s H E hr => ⟨_, (pss_one (ps_ret (pe_makeL (i := 0) T.mk_Pattern (F_Pattern___init.up (by decide)).ok hr rfl (by first | exact Or.inl rfl | exact Or.inr (Or.inl rfl) | exact Or.inr (Or.inr rfl)) (F_Pattern___init.up (by decide)).bn .nil (pass_own rfl rfl rfl rfl) (pa_cons (pe_call (F_read_pattern.up (by decide)).ok hr rfl T.g_read_pattern.1 T.g_read_pattern.2 (F_read_pattern.up (by decide)).bn .nil (pass_own rfl rfl rfl rfl) (pa_cons (pv 1) pa_nil)) pa_nil)))), fun ws ka out B F0 Q hC hR hX => ?_⟩)
  obtain ⟨a, b, rfl, cs, r, rfl, rfl, hs, hr2, rfl, rfl⟩ := hC
  cases r with
  | error p => exact g_retPX hX (evx_makeL rfl (evx_argM (evx_call (k2 := []) (kr := []) (k3 := []) (ea1 (ev_var rfl)) ⟨_, rfl, cs, _, rfl, hs, hr2, rfl, rfl⟩ rfl))) ⟨rfl, rfl⟩
  | ok t => exact g_ret hR (ev_makeL rfl (ev_pat (ev_callP (ea1 (ev_var rfl)) ⟨_, rfl, cs, _, rfl, hs, hr2, rfl, rfl⟩))) ⟨rfl, rfl⟩
end
theorem ev_lenK {K : PySem.W.Frag} {ro : Ro} {ka k1 : Cells} {te : TE} {p : Addr} {ns : List Int} (h : EvD K te ro ka (.val (.adr p)) k1) (hk : ∀ H, SqL K H p (ns.map V.int)) : EvD K (tCB (rLenU K) (tCons te tNil)) ro ka (.val (.int ns.length)) k1 := fun B F0 ta sg H Q e q => h B F0 ta sg H _ e fun v H1 e1 => .inl ⟨p, ns.map V.int, by rw [e1.tm_adr List.mem_cons_self], .inl (hk H1), by
  rw [List.length_map]
  exact q _ _ (e1.pop.push_imm fun _ => rfl)⟩
theorem ev_ixK {K : PySem.W.Frag} {ro : Ro} {ka k1 k2 : Cells} {te tf : TE} {p : Addr} {ns : List Int} {i : Nat} {z : Int} (h : EvD K te ro ka (.val (.adr p)) k1) (h2 : EvD K tf ro k1 (.val (.int i)) k2) (hk : ∀ H, SqL K H p (ns.map V.int)) (hz : ns[i]? = some z) : EvD K (tOp (rIx K) te tf) ro ka (.val (.int z)) k2 := ev_op h h2 fun B F0 ro ta sg H u v Q e h1 h2 q =>
  .inl ⟨p, ns.map V.int, i, .int z, e.tm_adr h1, e.tm_int h2, hk H, atI_nat (by rw [List.getElem?_map, hz]; rfl), q _ _ (e.push_imm fun _ => rfl)⟩
def ct_law_cell (K : PySem.W.Frag) : Ct := Ct2 fun a b ka out => ∃ ns, ∃ k : Nat, Scr K a ns ∧ b = .val (.int k) ∧ ka = [] ∧ out = Rt (.int (ns.getD k 0)) []
section
variable {P : Program} {w : World} {K : PySem.W.Frag} {mg : Str → Option Value} {base : Heap}
theorem ok_law_cell (T : Tx K mg w) : Fn P w K mg base 4 (He.ga K "_law_cell") ["_law_script", "_law_k"] (ct_law_cell K) := by
  obtain ⟨fd, F⟩ := T.d_law_cell
  refine fn_ok F sc_law_cell (fun _ _ _ _ _ _ us hl => match us, hl with | [_, _], _ => rfl) ct2_len (fun cdv A outer s H E hr => ⟨_, (pss_cons (ps_if (pt_cmpR op_lt (pv 1) (pe_callB call_lenU rfl T.n_len (by decide +kernel) (pa_cons (pv 0) pa_nil)) (nomark _))
      (pss_one (ps_ret (pe_ix ix_seq (pv 0) (pv 1) fun _ _ => rfl)))
      pss_nil)
      (pss_one (ps_ret pe_int))), fun ws ka out B F0 Q hC hR hX => ?_⟩)
  obtain ⟨a, b, rfl, ns, k, hs, rfl, rfl, rfl⟩ := hC
  have out0 : ¬ k < ns.length → ns.getD k 0 = 0 := fun h => by
    rw [List.getD_eq_getElem?_getD, List.getElem?_eq_none (by omega)]
    rfl
  have in0 : k < ns.length → ns[k]? = some (ns.getD k 0) := fun h => by
    rw [List.getD_eq_getElem?_getD, List.getElem?_eq_getElem h]
    rfl
  rcases hs with rfl | ⟨p, rfl, hk⟩
  · have hl : (inD ns).length = ns.length := List.length_map ..
    refine q_when (et_test (ev_lt (ev_var rfl) (ev_len (ev_var rfl) .vl))) (fun hb => g_ret hR (ev_ixV (d := .int (ns.getD k 0)) (ev_var rfl) (ev_var rfl) .vl (atI_nat ?_)) ⟨rfl, rfl⟩) (fun hb => g_ret hR ev_int ⟨?_, rfl⟩)
    · rw [decide_eq_true_eq, hl] at hb
      unfold inD
      rw [List.getElem?_map, in0 (by omega)]
      rfl
    · rw [decide_eq_false_iff_not, hl] at hb
      rw [out0 (by omega)]
  · refine q_when (et_test (ev_lt (ev_var rfl) (ev_lenK (ev_var rfl) hk))) (fun hb => g_ret hR (ev_ixK (ev_var rfl) (ev_var rfl) hk (in0 ?_)) ⟨rfl, rfl⟩) (fun hb => g_ret hR ev_int ⟨?_, rfl⟩)
    · rw [decide_eq_true_eq] at hb
      omega
    · rw [decide_eq_false_iff_not] at hb
      rw [out0 (by omega)]
end
def ct_law_pool (K : PySem.W.Frag) : Ct := Ct1 fun a ka out => ∃ z, a = .val (.int z) ∧ ka = [] ∧ out = Nt (.lst (plOf z).ds) []
section
variable {P : Program} {w : World} {K : PySem.W.Frag} {mg : Str → Option Value} {base : Heap}
theorem ok_law_pool (T : Tx K mg w) : Fn P w K mg base 4 (He.ga K "_law_pool") ["_law_cell_here"] (ct_law_pool K) := by
  obtain ⟨fd, F⟩ := T.d_law_pool
  refine fn_ok F sc_law_pool (fun _ _ _ _ _ _ us hl => match us, hl with | [_], _ => rfl) ct1_len (fun cdv A outer s H E hr => ⟨_, (pss_cons (ps_set (i := 1) sc_law_pool.nd rfl (by first | exact Or.inl rfl | exact Or.inr rfl) (pe_op op_mulU pe_int (pv 0)))
      (pss_cons (ps_if (pt_cmpR op_lt (pv 0) pe_int (nomark _))
      (pss_one (ps_set (i := 1) sc_law_pool.nd rfl (by first | exact Or.inl rfl | exact Or.inr rfl) (pe_op op_sub (pe_op op_sub pe_int (pe_op op_mulU pe_int (pv 0))) pe_int)))
      pss_nil)
      (pss_cons (ps_if (pt_cmpR op_ge (pv 1) (pe_op op_pow pe_int pe_int) (nomark _))
      (pss_one (ps_ret (pe_lst (pa_cons (pv 1) (pa_cons (pe_op op_mod (pe_callTy call_intU rfl T.n_int (by decide +kernel) (pa_cons (pv 1) pa_nil)) pe_int) (pa_cons pe_int pa_nil))))))
      pss_nil)
      (pss_one (ps_ret (pe_lst (pa_cons pe_int (pa_cons (pe_op op_mod (pe_callTy call_intU rfl T.n_int (by decide +kernel) (pa_cons (pv 1) pa_nil)) pe_int) (pa_cons pe_int pa_nil))))))))), fun ws ka out B F0 Q hC hR hX => ?_⟩)
  obtain ⟨a, rfl, z, rfl, rfl, rfl⟩ := hC
  refine q_asg (ev_mulL ev_int (ev_var rfl)) ?_
  refine q_whenI (fun ro ka => ro = [some (.val (.int z)), some (.val (.int (fldZ z)))] ∧ ka = []) (et_test (ev_lt (ev_var rfl) ev_int)) (fun hb nx k => g_asg (ev_subI (ev_subI ev_int (ev_mulL ev_int (ev_var rfl))) ev_int) (k _ _ ⟨?_, rfl⟩)) (fun hb => ⟨?_, rfl⟩) ?_
  · rw [decide_eq_true_eq] at hb
    unfold fldZ
    rw [if_pos hb]
    rfl
  · rw [decide_eq_false_iff_not] at hb
    unfold fldZ
    rw [if_neg hb]
    rfl
  · rintro ro2 ka2 ⟨rfl, rfl⟩
    refine q_when (et_test (ev_ge (ev_var rfl) (ev_powI ev_int ev_int ⟨by decide, by decide, by decide⟩))) (fun hb => g_retC hR (evn_lst (ds := (plOf z).ds) (ea3 (ev_var rfl) (ev_modI (ev_int1 (ev_var rfl)) ev_int (by decide)) ev_int |>.to ?_) (show 3 ≤ 100000 by decide)) (fun a => ⟨a, rfl, rfl⟩)) (fun hb => g_retC hR (evn_lst (ds := (plOf z).ds) (ea3 ev_int (ev_modI (ev_int1 (ev_var rfl)) ev_int (by decide)) ev_int |>.to ?_) (show 3 ≤ 100000 by decide)) (fun a => ⟨a, rfl, rfl⟩))
    · rw [decide_eq_true_eq] at hb
      have hb : fldZ z ≥ 10 ^ 18 := hb
      unfold plOf
      rw [if_pos hb]
      rfl
    · rw [decide_eq_false_iff_not] at hb
      have hb : ¬ fldZ z ≥ 10 ^ 18 := hb
      unfold plOf
      rw [if_neg hb]
      rfl
end
def ct_law_take (K : PySem.W.Frag) : Ct := Ct2 fun s b ka out => ∃ a p m, s = .val (.adr a) ∧ b = .val (.int m) ∧ ka = [(a, .lst (Pl.ds p))] ∧ p.Ok 1000000 ∧ 0 < m ∧ m ≤ 100000000 ∧ out = Rt (.int (tk p m).1) [(a, .lst (tk p m).2.ds)]
/-- a draw from the pool that is the first cell -/
theorem ev_take {K : PySem.W.Frag} {ro : Ro} {ka kr : Cells} {te tf : TE} {a : Addr} {p : Pl} {m : Int} {E : XK} {k1 : Cells} (h : EvD K te ro ka (.val (.adr a)) k1) (h2 : EvD K tf ro k1 (.val (.int m)) ((a, .lst p.ds) :: kr)) (hp : p.Ok 1000000) (h0 : 0 < m) (h1 : m ≤ 100000000) :
    EvD K (tCall (spC K (ct_law_take K)) [] E (tCons te (tCons tf tNil))) ro ka (.val (.int (tk p m).1)) ((a, .lst (tk p m).2.ds) :: kr) := ev_call1 (ea2 h h2) ⟨_, _, rfl, a, p, m, rfl, rfl, rfl, hp, h0, h1, rfl⟩
/-- a thing drawn out of texts, the pool behind it -/
def drawS (p : Pl) (ss : List Str) : Str := ss.getD (tk p ((stD ss).length : Nat)).1.toNat ""
def drawP (p : Pl) (ss : List Str) : Pl := (tk p ((stD ss).length : Nat)).2
theorem draw_lt {ss : List Str} (h : ss ≠ []) (p : Pl) : (0 : Int) < ((stD ss).length : Nat) ∧ 0 ≤ (tk p ((stD ss).length : Nat)).1 ∧ (tk p ((stD ss).length : Nat)).1.toNat < ss.length := by
  have hp := List.length_pos_iff.mpr h
  have hL : (0 : Int) < ((stD ss).length : Nat) := by rw [stD_len]; omega
  have t1 := tk_lt p hL
  refine ⟨hL, t1.1, ?_⟩
  have h1 := t1.1
  have h2 := t1.2
  rw [stD_len] at h1 h2 ⊢
  omega
theorem draw_eq {ss : List Str} (h : ss ≠ []) (p : Pl) : ss[(tk p ((stD ss).length : Nat)).1.toNat]? = some (drawS p ss) := by
  unfold drawS
  rw [List.getD_eq_getElem?_getD, List.getElem?_eq_getElem (draw_lt h p).2.2]
  rfl
theorem drawS_mem {ss : List Str} (h : ss ≠ []) (p : Pl) : drawS p ss ∈ ss := List.mem_of_getElem? (draw_eq h p)
theorem drawP_ok {ss : List Str} {p : Pl} {n : Int} (hp : p.Ok n) (h : ss ≠ []) : (drawP p ss).Ok (n + 1) := tk_ok hp (draw_lt h p).1
theorem ev_draw {K : PySem.W.Frag} {ro : Ro} {ka kr k0 k1 : Cells} {te tp tl : TE} {a : Addr} {p : Pl} {ss : List Str} {E : XK} (h1 : EvD K te ro ka (.val (.lst (stD ss))) k0) (h2 : EvD K tp ro k0 (.val (.adr a)) k1) (h3 : EvD K tl ro k1 (.val (.lst (stD ss))) ((a, .lst p.ds) :: kr)) (hp : p.Ok 1000000) (h : ss ≠ []) (hl : ss.length ≤ 100000) :
    EvD K (tOp (rIx K) te (tCall (spC K (ct_law_take K)) [] E (tCons tp (tCons (tCB (rLenU K) (tCons tl tNil)) tNil)))) ro ka (.val (.str (drawS p ss))) ((a, .lst (drawP p ss).ds) :: kr) :=
  ev_ixV h1 (ev_take h2 (ev_len h3 .vl) hp (draw_lt h p).1 (by rw [stD_len]; omega)) .vl (atZ (draw_lt h p).2.1 (stD_get (draw_eq h p)))
section
variable {P : Program} {w : World} {K : PySem.W.Frag} {mg : Str → Option Value} {base : Heap}
theorem ok_law_take (T : Tx K mg w) : Fn P w K mg base 4 (He.ga K "_law_take") ["_law_pool_here", "_law_many"] (ct_law_take K) := by
  obtain ⟨fd, F⟩ := T.d_law_take
  refine fn_ok F sc_law_take (fun _ _ _ _ _ _ us hl => match us, hl with | [_, _], _ => rfl) ct2_len (fun cdv A outer s H E hr => ⟨_, (pss_cons (ps_if (pt_cmpR op_gt (pe_ix ix_seq (pv 0) pe_int fun _ _ => rfl) pe_int (nomark _))
      (pss_cons (ps_set (i := 2) sc_law_take.nd rfl (by first | exact Or.inl rfl | exact Or.inr rfl) (pe_op op_mod (pe_callTy call_intU rfl T.n_int (by decide +kernel) (pa_cons (pe_ix ix_seq (pv 0) pe_int fun _ _ => rfl) pa_nil)) (pv 1)))
      (pss_cons (ps_asg (pe_op op_fdiv (pe_ix ix_seq (pv 0) pe_int fun _ _ => rfl) (pv 1)) (pg_sub (pv 0) pe_int set_list))
      (pss_one (ps_ret (pv 2)))))
      pss_nil)
      (pss_cons (ps_asg (pe_op op_addU (pe_ix ix_seq (pv 0) pe_int fun _ _ => rfl) pe_int) (pg_sub (pv 0) pe_int set_list))
      (pss_cons (ps_set (i := 3) sc_law_take.nd rfl (by first | exact Or.inl rfl | exact Or.inr rfl) (pe_op op_mod (pe_callTy call_intU rfl T.n_int (by decide +kernel) (pa_cons (pe_op op_pow (pe_op op_addU (pe_op op_addU (pe_ix ix_seq (pv 0) pe_int fun _ _ => rfl) (pe_op op_mulU pe_int (pe_ix ix_seq (pv 0) pe_int fun _ _ => rfl))) pe_int) pe_int) pa_nil)) pe_int))
      (pss_one (ps_ret (pe_op op_mod (pe_op op_mod (pe_callTy call_intU rfl T.n_int (by decide +kernel) (pa_cons (pe_op op_mulU (pe_op op_addU (pv 3) (pe_ix ix_seq (pv 0) pe_int fun _ _ => rfl)) pe_int) pa_nil)) pe_int) (pv 1))))))), fun ws ka out B F0 Q hC hR hX => ?_⟩)
  obtain ⟨s1, b, rfl, a, p, m, rfl, rfl, rfl, hp, h0, h1, rfl⟩ := hC
  obtain ⟨p1, p2, p3, p4, p5⟩ := hp
  have i2 : atI (Pl.ds p) 2 = some (.int p.c) := atI_nat (j := 2) rfl
  have i1 : atI (Pl.ds p) 1 = some (.int p.b) := atI_nat (j := 1) rfl
  refine q_when (et_test (ev_gt (ev_ixV (ev_var rfl) ev_int (.ce 0 rfl) at0) ev_int)) (fun hb => ?_) (fun hb => ?_)
  · rw [decide_eq_true_eq] at hb
    refine q_asg (ev_modI (ev_int1 (ev_ixV (ev_var rfl) ev_int (.ce 0 rfl) at0)) (ev_var rfl) h0) ?_
    refine q_seti (j := 0) (ix := 0) (ev_divI (ev_ixV (ev_var rfl) ev_int (.ce 0 rfl) at0) (ev_var rfl) ⟨h0, by omega⟩) (ev_var rfl) ev_int rfl rfl ?_
    refine g_ret hR (ev_var rfl) ?_
    unfold tk
    rw [if_pos hb]
    exact ⟨rfl, rfl⟩
  · rw [decide_eq_false_iff_not] at hb
    refine q_seti (j := 0) (ix := 2) (ev_addI (ev_ixV (ev_var rfl) ev_int (.ce 0 rfl) i2) ev_int) (ev_var rfl) ev_int rfl rfl ?_
    refine q_asg (ev_modI (ev_int1 (ev_powI (i := p.b + 7919 * (p.c + 1) + 104729) (ev_addI (ev_addI (ev_ixV (ev_var rfl) ev_int (.ce 0 rfl) (atI_nat (j := 1) rfl)) (ev_mulL ev_int (ev_ixV (ev_var rfl) ev_int (.ce 0 rfl) (atI_nat (j := 2) rfl)))) ev_int) ev_int ⟨by decide, by decide, ?_⟩)) ev_int (by decide)) ?_
    · omega
    refine g_ret hR (ev_modI (ev_modI (ev_int1 (ev_mulR (ev_addI (ev_var rfl) (ev_ixV (ev_var rfl) ev_int (.ce 0 rfl) (atI_nat (j := 2) rfl))) ev_int)) ev_int (by decide)) (ev_var rfl) h0) ?_
    unfold tk
    rw [if_neg hb]
    exact ⟨rfl, rfl⟩
end
structure WdOk (l : List Nat) (k : Nat) : Prop where
  hd : ∃ c, l.head? = some c ∧ c ∈ letL
  sg : ∀ x ∈ l, x ∈ letL ++ digL
  len : l.length = k
theorem head_take {l : List Nat} {n : Nat} (h : 0 < n) : (l.take n).head? = l.head? := by
  cases l with
  | nil => simp
  | cons c r =>
    cases n with
    | zero => omega
    | succ n => rfl
theorem head_app {l m : List Nat} {c : Nat} (h : l.head? = some c) : (l ++ m).head? = some c := by
  cases l with
  | nil => cases h
  | cons d r => exact h
theorem nm_mid {l st : List Nat} {c p : Nat} (hl : WdOk l 8) (r : Nat) (hr : r < 8) (hst : st = l.take r) (hp : p ≤ st.length) (h0 : p = 0 → c ∈ letL) (hc : c ∈ letL ++ digL) : isNm (tx (st.take p ++ [c] ++ st.drop p)) = true := by
  subst hst
  refine nm_of ?_ (fun x hx => ?_) ?_
  · by_cases hp0 : p = 0
    · subst hp0
      exact ⟨c, by simp, h0 rfl⟩
    · obtain ⟨d, h1, h2⟩ := hl.hd
      rw [List.length_take] at hp
      refine ⟨d, head_app (head_app ?_), h2⟩
      rw [head_take (by omega), head_take (by omega)]
      exact h1
  · rcases List.mem_append.mp hx with hx | hx
    · rcases List.mem_append.mp hx with hx | hx
      · exact hl.sg x (List.mem_of_mem_take (List.mem_of_mem_take hx))
      · rw [List.mem_singleton.mp hx]; exact hc
    · exact hl.sg x (List.mem_of_mem_take (List.mem_of_mem_drop hx))
  · rw [List.length_append, List.length_append, List.length_take, List.length_drop, List.length_take, hl.len]
    simp
    omega
theorem key_snoc {β : Type} {key : Str → β} {f : Nat → β} {ss : List Str} {x : Str} (h : ∀ j s, ss[j]? = some s → key s = f j) (hx : key x = f ss.length) : ∀ j s, (ss ++ [x])[j]? = some s → key s = f j := fun j s e => by
  rcases Nat.lt_trichotomy j ss.length with q | q | q
  · rw [List.getElem?_append_left q] at e
    exact h j s e
  · subst q
    rw [List.getElem?_append_right (Nat.le_refl _), Nat.sub_self] at e
    cases e
    exact hx
  · rw [List.getElem?_append_right (by omega)] at e
    have := (List.getElem?_eq_some_iff.mp e).1
    rw [List.length_singleton] at this
    omega
theorem key_nd {β : Type} {key : Str → β} {f : Nat → β} {ss : List Str} (h : ∀ j s, ss[j]? = some s → key s = f j) (inj : ∀ i j, i < j → j < ss.length → f i ≠ f j) : ss.Nodup := by
  refine List.pairwise_iff_getElem.mpr fun i j hi hj hij e => inj i j hij hj ?_
  rw [← h i _ (List.getElem?_eq_getElem hi), ← h j _ (List.getElem?_eq_getElem hj), e]
theorem at_get {β : Type} {xs : List β} {i : Int} {x : β} (h0 : 0 ≤ i) (h : atI xs i = some x) : xs[i.toNat]? = some x := by
  unfold atI ixN at h
  rw [if_pos h0] at h
  by_cases q : i < xs.length
  · rw [if_pos q] at h
    exact h
  · rw [if_neg q] at h
    cases h
theorem let_nd : letL.Nodup := by decide
theorem sig_nd : (letL ++ digL).Nodup := by decide
theorem nd_inj {xs : List Nat} (h : xs.Nodup) {i j : Nat} (hi : i < xs.length) (hij : i ≠ j) : xs[i]? ≠ xs[j]? := fun e => by
  rw [List.getElem?_eq_getElem hi] at e
  obtain ⟨hj, e2⟩ := List.getElem?_eq_some_iff.mp e.symm
  exact hij ((List.getElem_inj h).mp e2).symm
def ct_law_names (K : PySem.W.Frag) : Ct := Ct2 fun s b ka out => ∃ a p n m, s = .val (.adr a) ∧ b = .val (.int m) ∧ ka = [(a, .lst (Pl.ds p))] ∧ p.Ok n ∧ 0 ≤ n ∧ n ≤ 900000 ∧ 0 ≤ m ∧ m ≤ 8 ∧
  out = fun o k => ∃ ss p', o = .ret (.lst (stD ss)) ∧ k = [(a, .lst (Pl.ds p'))] ∧ p'.Ok (n + 30) ∧ ss.length = m.toNat ∧ (∀ s ∈ ss, isNm s = true) ∧ ss.Nodup
section
variable {P : Program} {w : World} {K : PySem.W.Frag} {mg : Str → Option Value} {base : Heap}
theorem ok_law_names (T : Tx K mg w) (F_law_take : Fn P w K mg base 4 (He.ga K "_law_take") ["_law_pool_here", "_law_many"] (ct_law_take K)) : Fn P w K mg base 6 (He.ga K "_law_names") ["_law_pool_here", "_law_many"] (ct_law_names K) := by
  obtain ⟨fd, F⟩ := T.d_law_names
  refine fn_ok F sc_law_names (fun _ _ _ _ _ _ us hl => match us, hl with | [_, _], _ => rfl) ct2_len (fun cdv A outer s H E hr => ⟨_, (pss_cons (ps_set (i := 2) sc_law_names.nd rfl (by first | exact Or.inl rfl | exact Or.inr rfl) pe_str)
      (pss_cons (ps_set (i := 3) sc_law_names.nd rfl (by first | exact Or.inl rfl | exact Or.inr rfl) (pe_op op_addU (pv 2) pe_str))
      (pss_cons (ps_set (i := 4) sc_law_names.nd rfl (by first | exact Or.inl rfl | exact Or.inr rfl) (pe_ix ix_seq (pv 2) (pe_call (F_law_take.up (by decide)).ok hr rfl T.g_law_take.1 T.g_law_take.2 (F_law_take.up (by decide)).bn .nil (pass_own rfl rfl rfl rfl) (pa_cons (pv 0) (pa_cons pe_int pa_nil))) fun _ _ => rfl))
      (pss_cons (ps_for (passes_of rfl) rfl (pi_range1 rfl T.n_range (pa_cons pe_int pa_nil)) (pg_name (i := 5) sc_law_names.nd rfl (by first | exact Or.inl rfl | exact Or.inr rfl)) (pss_one (ps_set (i := 4) sc_law_names.nd rfl (by first | exact Or.inl rfl | exact Or.inr rfl) (pe_op op_addU (pv 4) (pe_ix ix_seq (pv 3) (pe_call (F_law_take.up (by decide)).ok hr rfl T.g_law_take.1 T.g_law_take.2 (F_law_take.up (by decide)).bn .nil (pass_own rfl rfl rfl rfl) (pa_cons (pv 0) (pa_cons pe_int pa_nil))) fun _ _ => rfl)))))
      (pss_cons (ps_set (i := 6) sc_law_names.nd rfl (by first | exact Or.inl rfl | exact Or.inr rfl) (pe_call (F_law_take.up (by decide)).ok hr rfl T.g_law_take.1 T.g_law_take.2 (F_law_take.up (by decide)).bn .nil (pass_own rfl rfl rfl rfl) (pa_cons (pv 0) (pa_cons pe_int pa_nil))))
      (pss_cons (ps_set (i := 7) sc_law_names.nd rfl (by first | exact Or.inl rfl | exact Or.inr rfl) (pe_call (F_law_take.up (by decide)).ok hr rfl T.g_law_take.1 T.g_law_take.2 (F_law_take.up (by decide)).bn .nil (pass_own rfl rfl rfl rfl) (pa_cons (pv 0) (pa_cons pe_int pa_nil))))
      (pss_cons (ps_if (pt_cmpR (op_eqP (by have := (hr).units; exact this)) (pv 6) pe_int (nomark _))
      (pss_one (ps_ret (pe_lc (te := (tSl (rSlU K) (tVar 4) tNoPart (tPart (tOp (rAddU K) (tVar 5) (tC (.int 1)))))) (tt := tYes) (own := [("_law_k", 5)]) rfl sc_law_names.nd (pi_range1 rfl T.n_range (pa_cons (pv 1) pa_nil)) (blk_ok ["_law_pool_here", "_law_many", "_law_letters", "_law_signs", "_law_word", "_law_k", "_law_kind", "_law_start", "_law_stem", "_law_place_here", "_law_told_here", "_law_names_here", "_law_sign"] (defScope s_law_names) rfl rfl (by decide +kernel)) (fun _ _ _ _ _ => (pg_name (i := 5) sc_law_names.nd rfl (by first | exact Or.inl rfl | exact Or.inr rfl))) (fun _ _ _ _ _ => pts_nil) (fun _ _ _ _ _ => (pe_slice sl_U (pv 4) po_none (po_some (pe_op op_addU (pv 5) pe_int)))))))
      pss_nil)
      (pss_cons (ps_if (pt_cmpR (op_eqP (by have := (hr).units; exact this)) (pv 6) pe_int (nomark _))
      (pss_one (ps_ret (pe_lc (te := (tOp (rAddU K) (tOp (rIx K) (tVar 2) (tOp rModI (tOp (rAddU K) (tVar 7) (tOp rMulU (tC (.int 3)) (tVar 5))) (tC (.int 26)))) (tSl (rSlU K) (tVar 4) tNoPart (tPart (tCall (spC K (ct_law_take K)) [] (fun _ _ _ => False) (tCons (tVar 0) (tCons (tC (.int 8)) tNil))))))) (tt := tYes) (own := [("_law_k", 5)]) rfl sc_law_names.nd (pi_range1 rfl T.n_range (pa_cons (pv 1) pa_nil)) (blk_ok ["_law_pool_here", "_law_many", "_law_letters", "_law_signs", "_law_word", "_law_k", "_law_kind", "_law_start", "_law_stem", "_law_place_here", "_law_told_here", "_law_names_here", "_law_sign"] (defScope s_law_names) rfl rfl (by decide +kernel)) (fun _ _ _ _ _ => (pg_name (i := 5) sc_law_names.nd rfl (by first | exact Or.inl rfl | exact Or.inr rfl))) (fun _ _ _ _ _ => pts_nil) (fun _ _ _ _ _ => (pe_op op_addU (pe_ix ix_seq (pv 2) (pe_op op_mod (pe_op op_addU (pv 7) (pe_op op_mulU pe_int (pv 5))) pe_int) fun _ _ => rfl) (pe_slice sl_U (pv 4) po_none (po_some (pe_call (F_law_take.up (by decide)).ok hr rfl T.g_law_take.1 T.g_law_take.2 (F_law_take.up (by decide)).bn .nil passes_no (pa_cons (pv 0) (pa_cons pe_int pa_nil))))))))))
      pss_nil)
      (pss_cons (ps_set (i := 8) sc_law_names.nd rfl (by first | exact Or.inl rfl | exact Or.inr rfl) (pe_slice sl_U (pv 4) po_none (po_some (pe_call (F_law_take.up (by decide)).ok hr rfl T.g_law_take.1 T.g_law_take.2 (F_law_take.up (by decide)).bn .nil (pass_own rfl rfl rfl rfl) (pa_cons (pv 0) (pa_cons pe_int pa_nil))))))
      (pss_cons (ps_set (i := 9) sc_law_names.nd rfl (by first | exact Or.inl rfl | exact Or.inr rfl) (pe_call (F_law_take.up (by decide)).ok hr rfl T.g_law_take.1 T.g_law_take.2 (F_law_take.up (by decide)).bn .nil (pass_own rfl rfl rfl rfl) (pa_cons (pv 0) (pa_cons (pe_op op_addU (pe_callB call_lenU rfl T.n_len (by decide +kernel) (pa_cons (pv 8) pa_nil)) pe_int) pa_nil))))
      (pss_cons (ps_set (i := 10) sc_law_names.nd rfl (by first | exact Or.inl rfl | exact Or.inr rfl) (pe_ifExp (pt_cmpR (op_eqP (by have := (hr).units; exact this)) (pv 9) pe_int (nomark _)) (pv 2) (pv 3)))
      (pss_cons (ps_set (i := 11) sc_law_names.nd rfl (by first | exact Or.inl rfl | exact Or.inr rfl) (pe_lst pa_nil))
      (pss_cons (ps_for (passes_of rfl) rfl (pi_range1 rfl T.n_range (pa_cons (pv 1) pa_nil)) (pg_name (i := 5) sc_law_names.nd rfl (by first | exact Or.inl rfl | exact Or.inr rfl)) (pss_cons (ps_set (i := 12) sc_law_names.nd rfl (by first | exact Or.inl rfl | exact Or.inr rfl) (pe_ix ix_seq (pv 10) (pe_op op_mod (pe_op op_addU (pv 7) (pe_op op_mulU pe_int (pv 5))) (pe_callB call_lenU rfl T.n_len (by decide +kernel) (pa_cons (pv 10) pa_nil))) fun _ _ => rfl))
      (pss_one (ps_expr (pe_bm PySem.F.plainAttrs_list PySem.F.slot_list_append PySem.F.type_list_append mt_append (pv 11) (pa_cons (pe_op op_addU (pe_op op_addU (pe_slice sl_U (pv 8) po_none (po_some (pv 9))) (pv 12)) (pe_slice sl_U (pv 8) (po_some (pv 9)) po_none)) pa_nil))))))
      (pss_one (ps_ret (pv 11)))))))))))))))), fun ws ka out B F0 Q hC hR hX => ?_⟩)
  obtain ⟨s1, b1, rfl, a, p, n, m, rfl, rfl, rfl, hp, hn0, hn, hm0, hm, rfl⟩ := hC
  refine q_asg (ev_str.to (congrArg (fun z => W.val (.str z)) letters_tx)) ?_
  refine q_asg (ev_addT (ev_var rfl) (ev_str.to (congrArg (fun z => W.val (.str z)) digits_tx)) (by decide)) ?_
  have t0 := tk_lt p (m := 26) (by decide)
  obtain ⟨c0, hc0, hm1⟩ := sgn_at (l := letL) t0.1 (by rw [let_len]; exact t0.2)
  have hp1 : (tk p 26).2.Ok (n + 1) := tk_ok hp (by decide)
  refine q_asg (ev_ixT (ev_var rfl) (ev_take (kr := []) (ev_var rfl) ev_int (hp.up (by omega)) (by decide) (by decide)) (by decide) hc0) ?_
  refine q_forn (ei_range1 (ea1 ev_int) (by decide) (by decide)) (fun i ro ka => ∃ l p' v, ro = [some (.val (.adr a)), some (.val (.int m)), some (.val (.str (tx letL))), some (.val (.str (tx (letL ++ digL)))), some (.val (.str (tx l))), v, none, none, none, none, none, none, none] ∧ ka = [(a, .lst (Pl.ds p'))] ∧ p'.Ok (n + 1 + i) ∧ WdOk l (i + 1))
    ⟨[c0], _, none, rfl, rfl, hp1.up (by omega), ⟨c0, rfl, hm1⟩, fun x hx => by rw [List.mem_singleton.mp hx]; exact List.mem_append_left _ hm1, rfl⟩ (fun i ro ka _ => trivial) (fun i w ro2 ka2 ta' hw ⟨l, p', v, e1, e2, hp', hl⟩ => ?_) (fun ro2 ka2 ta' ⟨l, p1, v, e1, e2, hp1, hl⟩ _ => ?_)
  · subst e1 e2
    have hi : i < 7 := by
      have := (List.getElem?_eq_some_iff.mp hw).1
      rwa [List.length_map, List.length_range] at this
    have t1 := tk_lt p' (m := 36) (by decide)
    obtain ⟨c, hc, hm2⟩ := sgn_at (l := letL ++ digL) t1.1 (by rw [sig_len]; exact t1.2)
    refine g_asg (ev_addT (ev_var rfl) (ev_ixT (ev_var rfl) (ev_take (kr := []) (ev_var rfl) ev_int (hp'.up (by omega)) (by decide) (by decide)) (by decide) hc) (by rw [hl.len]; simp; omega)) (g_jp ⟨l ++ [c], _, _, rfl, rfl, (tk_ok hp' (by decide)).up (by push_cast; omega), ?_, fun x hx => ?_, by rw [List.length_append, hl.len]; rfl⟩)
    · obtain ⟨d, h1, h2⟩ := hl.hd
      exact ⟨d, head_app h1, h2⟩
    · rcases List.mem_append.mp hx with hx | hx
      · exact hl.sg x hx
      · rw [List.mem_singleton.mp hx]; exact hm2
  subst e1 e2
  rw [List.length_map, List.length_range] at hp1 hl
  have hl : WdOk l 8 := hl
  have hp1 : p1.Ok (n + 8) := hp1.up (by show n + 1 + 7 ≤ n + 8; omega)
  have hp2 := tk_ok hp1 (m := 4) (by decide)
  have hp3 := tk_ok hp2 (m := 36) (by decide)
  have t4 := tk_lt p1 (m := 4) (by decide)
  have t5 := tk_lt (tk p1 4).2 (m := 36) (by decide)
  have hl8 : l.length = 8 := hl.len
  refine q_asg (ev_take (kr := []) (ev_var rfl) ev_int (hp1.up (by omega)) (by decide) (by decide)) ?_
  refine q_asg (ev_take (kr := []) (ev_var rfl) ev_int (hp2.up (by omega)) (by decide) (by decide)) ?_
  generalize tk (tk p1 4).2 36 = q3 at *
  refine q_when (et_test (ev_eqI (ev_var rfl) ev_int)) (fun _ => ?_) (fun _ => ?_)
  · refine g_retL hR (evn_map (xs := List.range m.toNat) (g := fun i : Nat => W.val (.int (i : Int))) (f := fun i => D.str (tx (l.take (i + 1)))) (ei_range1 (ea1 (ev_var rfl)) (by omega) (by omega)) (by decide) (by rw [List.length_range]; omega) ⟨trivial, fun _ => trivial⟩ (fun i hi => (ev_slX (ev_var rfl) eo_none (eo_some (ev_addI (ev_var rfl) ev_int)) (by omega)).to ?_)) ⟨(List.range m.toNat).map fun i => tx (l.take (i + 1)), _, ?_, rfl, hp3.up (by omega), by rw [List.length_map, List.length_range], fun s hs => ?_, key_nd (key := fun s => s.cps.toList.length) (f := fun j => j + 1) (fun j s e => ?_) (fun i j h1 _ => by show i + 1 ≠ j + 1; omega)⟩
    · rw [cut_to' (by omega)]
      rfl
    · unfold stD
      rw [List.map_map]
      rfl
    · obtain ⟨i, hi, rfl⟩ := List.mem_map.mp hs
      obtain ⟨d, h1, h2⟩ := hl.hd
      refine nm_of ⟨d, by rw [head_take (by omega)]; exact h1, h2⟩ (fun x hx => hl.sg x (List.mem_of_mem_take hx)) ?_
      rw [List.length_take]
      omega
    · rw [List.getElem?_map] at e
      obtain ⟨i, hi, rfl⟩ := Option.map_eq_some_iff.mp e
      obtain ⟨h1, h2⟩ := List.getElem?_eq_some_iff.mp hi
      rw [List.getElem_range] at h2
      rw [List.length_range] at h1
      subst h2
      show (tx _).cps.toList.length = _
      rw [tx_cps, List.length_take]
      omega
  refine q_when (et_test (ev_eqI (ev_var rfl) ev_int)) (fun _ => ?_) (fun _ => ?_)
  · refine g_retR hR (evr_lc (ei_range1 (ea1 (ev_var rfl)) (by omega) (by omega)) (by decide) (by rw [List.length_map, List.length_range]; omega) (fun i acc k => ∃ ss p', acc = stD ss ∧ k = [(a, .lst (Pl.ds p'))] ∧ p'.Ok (n + 10 + i) ∧ ss.length = i ∧ (∀ s ∈ ss, isNm s = true) ∧ ∀ (j : Nat) (s : Str), ss[j]? = some s → s.cps.toList[0]? = letL[((q3.1 + 3 * (j : Int)) % 26).toNat]?) ⟨[], _, rfl, rfl, hp3.up (by omega), rfl, (fun s h => by cases h), fun j s h => by simp at h⟩ (fun i acc k _ => ⟨trivial, fun _ => trivial⟩) (fun i w acc k hw ⟨ss, p', e1, e2, hp', hl2, hs, hk⟩ => ?_)) (fun nd k ⟨acc, e0, ss, p', e1, e2, hp', hl2, hs, hk⟩ => ?_)
    · subst e1 e2
      have hi : i < m.toNat := by
        have := (List.getElem?_eq_some_iff.mp hw).1
        rwa [List.length_map, List.length_range] at this
      have hw2 : w = .val (.int (i : Int)) := by
        rw [List.getElem?_map, List.getElem?_range hi] at hw
        cases hw
        rfl
      subst hw2
      have hz : 0 ≤ (q3.1 + 3 * (i : Int)) % 26 := Int.emod_nonneg _ (by decide)
      have hz2 : (q3.1 + 3 * (i : Int)) % 26 < 26 := Int.emod_lt_of_pos _ (by decide)
      obtain ⟨c, hc, hm2⟩ := sgn_at (l := letL) hz (by rw [let_len]; exact hz2)
      have t6 := tk_lt p' (m := 8) (by decide)
      refine .inr ⟨_, _, .str (tx ([c] ++ l.take (tk p' 8).1.toNat)), et_yes, (ev_addT (ev_ixT (ev_var rfl) (ev_modI (ev_addI (ev_var rfl) (ev_mulL ev_int (ev_var rfl))) ev_int (by decide)) (by decide) hc) ((ev_slX (ev_var rfl) eo_none (eo_some (ev_take (kr := []) (ev_var rfl) ev_int (hp'.up (by omega)) (by decide) (by decide))) (by omega)).to (congrArg (fun z => W.val (.str (tx z))) (cut_to' t6.1))) (by rw [List.length_take]; simp; omega)), ss ++ [tx ([c] ++ l.take (tk p' 8).1.toNat)], _, stD_app ss [_], rfl, (tk_ok hp' (by decide)).up (by push_cast; omega), by rw [List.length_append, hl2]; rfl, fun s h => ?_, key_snoc hk (by rw [hl2, at_get hz hc]; rfl)⟩
      rcases List.mem_append.mp h with h | h
      · exact hs s h
      · rw [List.mem_singleton.mp h]
        refine nm_of ⟨c, rfl, hm2⟩ (fun x hx => ?_) ?_
        · rcases List.mem_append.mp hx with hx | hx
          · rw [List.mem_singleton.mp hx]; exact List.mem_append_left _ hm2
          · exact hl.sg x (List.mem_of_mem_take hx)
        · rw [List.length_append, List.length_take]
          simp
          omega
    · subst e1 e2
      rw [List.length_map, List.length_range] at hl2 hp'
      refine ⟨_, e0, ss, p', rfl, rfl, hp'.up (by omega), hl2, hs, key_nd hk fun i j h1 h2 => nd_inj let_nd ?_ ?_⟩
      · rw [let_len]; omega
      · omega
  have t6 := tk_lt q3.2 (m := 8) (by decide)
  have hp4 := tk_ok hp3 (m := 8) (by decide)
  refine q_asg ((ev_slX (ev_var rfl) eo_none (eo_some (ev_take (kr := []) (ev_var rfl) ev_int (hp3.up (by omega)) (by decide) (by decide))) (by omega)).to (congrArg (fun z => W.val (.str (tx z))) (cut_to' t6.1))) ?_
  generalize hst : l.take (tk q3.2 8).1.toNat = st
  have hsl : st.length ≤ 7 := by
    rw [← hst, List.length_take]
    omega
  have t7 := tk_lt (tk q3.2 8).2 (m := (st.length : Int) + 1) (by omega)
  have hp5 := tk_ok hp4 (m := (st.length : Int) + 1) (by omega)
  refine q_asg (ev_take (kr := []) (ev_var rfl) (ev_addI (ev_lenX (ev_var rfl) (by omega)) ev_int) (hp4.up (by omega)) (by omega) (by omega)) ?_
  generalize tk (tk q3.2 8).2 ((st.length : Int) + 1) = q5 at *
  generalize htl : (if (q5.1 == 0) = true then letL else letL ++ digL) = tl
  have htl0 : 0 < tl.length ∧ tl.length ≤ 36 := by
    rw [← htl]
    split <;> decide
  refine q_asg (w := .val (.str (tx tl))) (ev_if (et_test (ev_eqI (ev_var rfl) ev_int)) (fun hb => (ev_var rfl).to (by rw [← htl, if_pos hb])) (fun hb => (ev_var rfl).to (by rw [← htl, if_neg (by rw [hb]; exact Bool.false_ne_true)]))) ?_
  refine q_asgN (evn_lst (ds := []) ea_nil (by decide)) (fun b => ?_)
  refine q_forn (ei_range1 (ea1 (ev_var rfl)) (by omega) (by omega)) (fun i ro ka => ∃ ss v v2, ro = [some (.val (.adr a)), some (.val (.int m)), some (.val (.str (tx letL))), some (.val (.str (tx (letL ++ digL)))), some (.val (.str (tx l))), v, some (.val (.int (tk p1 4).1)), some (.val (.int q3.1)), some (.val (.str (tx st))), some (.val (.int q5.1)), some (.val (.str (tx tl))), some (.val (.adr b)), v2] ∧ ka = [(a, .lst (Pl.ds q5.2)), (b, .lst (stD ss))] ∧ ss.length = i ∧ (∀ s ∈ ss, isNm s = true) ∧ ∀ (j : Nat) (s : Str), ss[j]? = some s → s.cps.toList[q5.1.toNat]? = tl[((q3.1 + 7 * (j : Int)) % (tl.length : Int)).toNat]?)
    ⟨[], _, none, rfl, rfl, rfl, (fun s h => by cases h), fun j s h => by simp at h⟩ (fun i ro ka _ => trivial) (fun i w ro2 ka2 ta' hw ⟨ss, v, v2, e1, e2, hl2, hs, hk⟩ => ?_) (fun ro2 ka2 ta' ⟨ss, v, v2, e1, e2, hl2, hs, hk⟩ _ => ?_)
  · subst e1 e2
    have hi : i < m.toNat := by
      have := (List.getElem?_eq_some_iff.mp hw).1
      rwa [List.length_map, List.length_range] at this
    have hw2 : w = .val (.int (i : Int)) := by
      rw [List.getElem?_map, List.getElem?_range hi] at hw
      cases hw
      rfl
    subst hw2
    have hz : 0 ≤ (q3.1 + 7 * (i : Int)) % (tl.length : Int) := Int.emod_nonneg _ (by omega)
    have hz2 : (q3.1 + 7 * (i : Int)) % (tl.length : Int) < tl.length := Int.emod_lt_of_pos _ (by omega)
    obtain ⟨c, hc, hm2⟩ := sgn_at (l := tl) hz hz2
    have hpl : q5.1 ≤ st.length := by omega
    refine q_asg (ev_ixT (ev_var rfl) (ev_modI (ev_addI (ev_var rfl) (ev_mulL ev_int (ev_var rfl))) (ev_lenX (ev_var rfl) (by omega)) (by omega)) (by omega) hc) ?_
    refine g_app (j0 := 1) (j := 1) (d := .str (tx (st.take q5.1.toNat ++ [c] ++ st.drop q5.1.toNat))) (ev_var rfl) rfl ((ev_addT (ev_addT (ev_slX (ev_var rfl) eo_none (eo_some (ev_var rfl)) (by omega)) (ev_var rfl) ?_) (ev_slX (ev_var rfl) (eo_some (ev_var rfl)) eo_none (by omega)) ?_).to ?_) rfl (by rw [stD_len]; omega) (g_jp ⟨ss ++ [tx (st.take q5.1.toNat ++ [c] ++ st.drop q5.1.toNat)], _, _, rfl, ?_, by rw [List.length_append, hl2]; rfl, fun s h => ?_, key_snoc hk ?_⟩)
    · have := cut_len st none (some q5.1)
      simp
      omega
    · have h1 := cut_len st none (some q5.1)
      have h2 := cut_len st (some q5.1) none
      rw [List.length_append]
      simp
      omega
    · rw [cut_to' t7.1, cut_from t7.1 hpl]
    · exact congrArg (fun z => [(a, Nd.lst (Pl.ds q5.2)), (b, Nd.lst z)]) (stD_app ss [_])
    · rcases List.mem_append.mp h with h | h
      · exact hs s h
      · rw [List.mem_singleton.mp h]
        refine nm_mid hl _ (by omega) hst.symm (by omega) (fun h0 => ?_) ?_
        · have : (q5.1 == 0) = true := beq_iff_eq.mpr (by omega)
          rw [if_pos this] at htl
          rw [htl]
          exact hm2
        · rw [← htl] at hm2
          split at hm2
          · exact List.mem_append_left _ hm2
          · exact hm2
    · rw [hl2, at_get hz hc, tx_cps, List.append_assoc, List.getElem?_append_right (by rw [List.length_take]; omega), List.length_take, Nat.min_eq_left (by omega), Nat.sub_self]
      rfl
  · subst e1 e2
    rw [List.length_map, List.length_range] at hl2
    have hnd : ss.Nodup := key_nd hk fun i j h1 h2 => by
      have hl36 : tl = letL ∨ tl = letL ++ digL := by
        rw [← htl]
        split
        · exact .inl rfl
        · exact .inr rfl
      rcases hl36 with q | q
      · subst q
        rw [let_len]
        exact nd_inj let_nd (by rw [let_len]; omega) (by omega)
      · rw [q, sig_len]
        exact nd_inj sig_nd (by rw [sig_len]; omega) (by omega)
    exact Gp.frz (i := 11) (j := 1) rfl rfl (g_ret hR (ev_var rfl) ⟨ss, _, rfl, rfl, hp5.up (by omega), hl2, hs, hnd⟩)
end
theorem jn_tx : ∀ ns : List Str, Txt.join " " ns = tx (jnC ns)
  | [] => by rw [TL.join_eq]; rfl
  | x :: xs => by
    rw [TL.join_eq]
    show Str.join " " (x :: xs) = tx (x.cps.toList ++ nmsC xs)
    induction xs generalizing x with
    | nil =>
      show x = tx (x.cps.toList ++ [])
      rw [List.append_nil]
      rfl
    | cons y ys ih =>
      show x ++ " " ++ Str.join " " (y :: ys) = _
      rw [ih y, nmsC_cons]
      show tx x.cps.toList ++ tx [32] ++ tx (y.cps.toList ++ nmsC ys) = _
      rw [tx_app, tx_app]
      congr 1
      simp
theorem at_tx (k : Bool) (ns : List Str) : atX k ns = tx (atC false k ns) := by
  unfold atX atC
  cases k with
  | true =>
    rw [if_pos rfl]
    by_cases h : ns.length = 1
    · rw [if_pos h]
      show ns.getD 0 "" = tx (if ns.length = 1 ∧ false = false then _ else _)
      rw [if_pos ⟨h, rfl⟩]
      rfl
    · rw [if_neg h]
      show _ = tx (if ns.length = 1 ∧ false = false then _ else _)
      rw [if_neg fun z => h z.1, jn_tx]
      show tx [] ++ tx [91] ++ tx (jnC ns) ++ tx [93] = _
      rw [tx_app, tx_app, tx_app]
      rfl
  | false =>
    rw [if_neg (by decide)]
    by_cases h : ns = []
    · rw [if_pos h]
      show _ = tx (if ns = [] then _ else _)
      rw [if_pos h]
      rfl
    · rw [if_neg h]
      show _ = tx (if ns = [] then _ else _)
      rw [if_neg h, jn_tx]
      show tx [] ++ tx [91, 94] ++ tx (jnC ns) ++ tx [93] = _
      rw [tx_app, tx_app, tx_app]
      rfl
theorem txO_tx : ∀ t : Tr, txO t = tx (txC false t)
  | .at k ns => at_tx k (inOrd ns)
  | .join a b => by
    show txO a ++ tx [32] ++ txO b = tx (txC false a ++ 32 :: txC false b)
    rw [txO_tx a, txO_tx b, tx_app, tx_app, List.append_assoc]
    rfl
  | .either a b => by
    show tx [] ++ tx [40] ++ txO a ++ tx [32, 124, 32] ++ txO b ++ tx [41] = tx (40 :: (txC false a ++ 32 :: 124 :: 32 :: (txC false b ++ [41])))
    rw [txO_tx a, txO_tx b, tx_app, tx_app, tx_app, tx_app, tx_app]
    congr 1
    simp
  | .rep a => by
    show tx [] ++ tx [40] ++ txO a ++ tx [41] ++ tx [42] = tx (40 :: (txC false a ++ [41, 42]))
    rw [txO_tx a, tx_app, tx_app, tx_app, tx_app]
    congr 1
    simp
  | .opt a => by
    show tx [] ++ tx [40] ++ txO a ++ tx [41] ++ tx [63] = tx (40 :: (txC false a ++ [41, 63]))
    rw [txO_tx a, tx_app, tx_app, tx_app, tx_app]
    congr 1
    simp
/-- a drawn text of so many operators -/
structure DrB (d : Nat) (cs : List Nat) : Prop where
  l : cs.length + 5 ≤ 35 * 2 ^ d
  s : cs.count 32 + 3 ≤ 5 * 2 ^ d
  p : cs.count 40 + 1 ≤ 2 ^ d
theorem nm_cnt {x : Str} (h : isNm x = true) (c : Nat) (hc : okC c = false) : x.cps.toList.count c = 0 := by
  obtain ⟨a, r, e, ha, _, hr⟩ := nmL_cons h
  rw [e]
  refine List.count_eq_zero.mpr fun z => ?_
  rcases List.mem_cons.mp z with rfl | z
  · rw [let_ok ha] at hc; cases hc
  · rw [hr c z] at hc; cases hc
theorem nmsC_cnt {xs : List Str} (h : ∀ x ∈ xs, isNm x = true) : (nmsC xs).count 32 = xs.length ∧ (nmsC xs).count 40 = 0 := by
  induction xs with
  | nil => exact ⟨rfl, rfl⟩
  | cons x xs ih =>
    obtain ⟨h1, h2⟩ := ih fun y hy => h y (List.mem_cons_of_mem _ hy)
    have n1 := nm_cnt (h x List.mem_cons_self) 32 (by decide)
    have n2 := nm_cnt (h x List.mem_cons_self) 40 (by decide)
    rw [nmsC_cons, List.count_cons, List.count_cons, List.count_append, List.count_append, h1, h2, n1, n2, List.length_cons]
    exact ⟨by simp, by simp⟩
theorem jnC_cnt {x : Str} {xs : List Str} (h : ∀ y ∈ x :: xs, isNm y = true) : (jnC (x :: xs)).count 32 = xs.length ∧ (jnC (x :: xs)).count 40 = 0 := by
  obtain ⟨h1, h2⟩ := nmsC_cnt fun y hy => h y (List.mem_cons_of_mem x hy)
  have n1 := nm_cnt (h x List.mem_cons_self) 32 (by decide)
  have n2 := nm_cnt (h x List.mem_cons_self) 40 (by decide)
  show (x.cps.toList ++ nmsC xs).count 32 = _ ∧ (x.cps.toList ++ nmsC xs).count 40 = _
  rw [List.count_append, List.count_append, h1, h2, n1, n2]
  exact ⟨Nat.zero_add _, rfl⟩
theorem DrB.leaf {d : Nat} {cs : List Nat} (h1 : cs.length ≤ 30) (h2 : cs.count 32 ≤ 2) (h3 : cs.count 40 = 0) : DrB d cs := by
  have : 1 ≤ 2 ^ d := Nat.one_le_two_pow
  exact ⟨by omega, by omega, by omega⟩
theorem DrB.two {d : Nat} {a b m : List Nat} (ha : DrB d a) (hb : DrB d b) (l : m.length ≤ a.length + b.length + 5) (s : m.count 32 ≤ a.count 32 + b.count 32 + 3) (p : m.count 40 ≤ a.count 40 + b.count 40 + 1) : DrB (d + 1) m := by
  have h1 := ha.l; have h2 := hb.l; have h3 := ha.s; have h4 := hb.s; have h5 := ha.p; have h6 := hb.p
  exact ⟨by rw [Nat.pow_succ]; omega, by rw [Nat.pow_succ]; omega, by rw [Nat.pow_succ]; omega⟩
theorem DrB.one {d : Nat} {a m : List Nat} (ha : DrB d a) (l : m.length ≤ a.length + 3) (s : m.count 32 ≤ a.count 32) (p : m.count 40 ≤ a.count 40 + 1) : DrB (d + 1) m := by
  have h1 := ha.l; have h3 := ha.s; have h5 := ha.p
  have : 1 ≤ 2 ^ d := Nat.one_le_two_pow
  exact ⟨by rw [Nat.pow_succ]; omega, by rw [Nat.pow_succ]; omega, by rw [Nat.pow_succ]; omega⟩
def ct_law_drawn (d : Nat) (K : PySem.W.Frag) : Ct := Ct3 fun s b c ka out => ∃ (a : Addr) (p : Pl) (n : Int) (ls : List Str) (dd : Nat), s = .val (.adr a) ∧ b = .val (.lst (stD ls)) ∧ c = .val (.int (dd : Int)) ∧ ka = [(a, .lst (Pl.ds p))] ∧ p.Ok n ∧ 0 ≤ n ∧ n + ((12 * 2 ^ dd : Nat) : Int) ≤ 900000 ∧ dd < d ∧ dd ≤ 3 ∧ ls ≠ [] ∧ ls.length ≤ 100 ∧ (∀ x ∈ ls, isNm x = true) ∧
  out = fun o k => ∃ (cs : List Nat) (p' : Pl), o = .ret (.str (tx cs)) ∧ k = [(a, .lst (Pl.ds p'))] ∧ p'.Ok (n + ((12 * 2 ^ dd : Nat) : Int) - 6) ∧ DrB dd cs
theorem ct_law_drawn_zero (K : PySem.W.Frag) : ∀ ws ka out, ¬ ct_law_drawn 0 K ws ka out := fun ws ka out ⟨_, _, _, _, a, p, n, ls, dd, _, _, _, _, _, _, _, hd, _⟩ => absurd hd (Nat.not_lt_zero _)
section
variable {P : Program} {w : World} {K : PySem.W.Frag} {mg : Str → Option Value} {base : Heap}
theorem ok_law_drawn (T : Tx K mg w) (F_law_take : Fn P w K mg base 4 (He.ga K "_law_take") ["_law_pool_here", "_law_many"] (ct_law_take K)) : ∀ d : Nat, Fn P w K mg base (2 * d + 6) (He.ga K "_law_drawn") ["_law_pool_here", "_law_names_here", "_law_depth"] (ct_law_drawn d K) := by
  obtain ⟨fd, F⟩ := T.d_law_drawn
  intro d
  induction d with
  | zero => exact fn_vac F sc_law_drawn (fun _ _ _ _ _ _ us hl => match us, hl with | [_, _, _], _ => rfl) (ct_law_drawn_zero K)
  | succ d F_law_drawn => ?_
  refine fn_ok F sc_law_drawn (fun _ _ _ _ _ _ us hl => match us, hl with | [_, _, _], _ => rfl) ct3_len (fun cdv A outer s H E hr => ⟨_, (pss_cons (ps_set (i := 3) sc_law_drawn.nd rfl (by first | exact Or.inl rfl | exact Or.inr rfl) (pe_call (F_law_take.up (by omega)).ok hr rfl T.g_law_take.1 T.g_law_take.2 (F_law_take.up (by omega)).bn .nil (pass_own rfl rfl rfl rfl) (pa_cons (pv 0) (pa_cons pe_int pa_nil))))
      (pss_cons (ps_setLc (i := 5) (te := (tOp (rIx K) (tVar 1) (tCall (spC K (ct_law_take K)) [] (fun _ _ _ => False) (tCons (tVar 0) (tCons (tCB (rLenU K) (tCons (tVar 1) tNil)) tNil))))) (tt := tYes) (own := [("_law_k", 4)]) rfl sc_law_drawn.nd rfl rfl rfl (pi_range1 rfl T.n_range (pa_cons (pe_op op_addU pe_int (pe_call (F_law_take.up (by omega)).ok hr rfl T.g_law_take.1 T.g_law_take.2 (F_law_take.up (by omega)).bn .nil (pass_own rfl rfl rfl rfl) (pa_cons (pv 0) (pa_cons pe_int pa_nil)))) pa_nil)) (blk_ok ["_law_pool_here", "_law_names_here", "_law_depth", "_law_kind", "_law_k", "_law_some", "_law_one", "_law_two"] (defScope s_law_drawn) rfl rfl (by decide +kernel)) (fun _ _ _ _ _ => (pg_name (i := 4) sc_law_drawn.nd rfl (by first | exact Or.inl rfl | exact Or.inr rfl))) (fun _ _ _ _ _ => pts_nil) (fun _ _ _ _ _ => (pe_ix ix_seq (pv 1) (pe_call (F_law_take.up (by omega)).ok hr rfl T.g_law_take.1 T.g_law_take.2 (F_law_take.up (by omega)).bn .nil passes_no (pa_cons (pv 0) (pa_cons (pe_callB call_lenU rfl T.n_len (by decide +kernel) (pa_cons (pv 1) pa_nil)) pa_nil))) fun _ _ => rfl)))
      (pss_cons (ps_if (PW.pt (pw_or (pt_cmpR (op_eqP (by have := (hr).units; exact this)) (pv 2) pe_int (nomark _)) (pw_or1 (pt_cmpR op_lt (pv 3) pe_int (nomark _)))))
      (pss_one (ps_ret (pe_ix ix_seq (pe_lst (pa_cons (pe_ix ix_seq (pv 5) pe_int fun _ _ => rfl) (pa_cons (pe_op op_addU (pe_op op_addU pe_str (pe_join pe_str (pv 5))) pe_str) (pa_cons (pe_op op_addU (pe_op op_addU pe_str (pe_join pe_str (pv 5))) pe_str) (pa_cons pe_str pa_nil))))) (pe_call (F_law_take.up (by omega)).ok hr rfl T.g_law_take.1 T.g_law_take.2 (F_law_take.up (by omega)).bn .nil (pass_own rfl rfl rfl rfl) (pa_cons (pv 0) (pa_cons pe_int pa_nil))) fun _ _ => rfl)))
      pss_nil)
      (pss_cons (ps_set (i := 6) sc_law_drawn.nd rfl (by first | exact Or.inl rfl | exact Or.inr rfl) (pe_call (F_law_drawn.up (by omega)).ok hr rfl T.g_law_drawn.1 T.g_law_drawn.2 (F_law_drawn.up (by omega)).bn .nil (pass_own rfl rfl rfl rfl) (pa_cons (pv 0) (pa_cons (pv 1) (pa_cons (pe_op op_sub (pv 2) pe_int) pa_nil)))))
      (pss_cons (ps_if (pt_cmpR (op_eqP (by have := (hr).units; exact this)) (pv 3) pe_int (nomark _))
      (pss_one (ps_ret (pe_op op_addU (pe_op op_addU (pe_op op_addU pe_str (pv 6)) pe_str) (pe_ix ix_seq pe_str (pe_call (F_law_take.up (by omega)).ok hr rfl T.g_law_take.1 T.g_law_take.2 (F_law_take.up (by omega)).bn .nil (pass_own rfl rfl rfl rfl) (pa_cons (pv 0) (pa_cons pe_int pa_nil))) fun _ _ => rfl))))
      pss_nil)
      (pss_cons (ps_set (i := 7) sc_law_drawn.nd rfl (by first | exact Or.inl rfl | exact Or.inr rfl) (pe_call (F_law_drawn.up (by omega)).ok hr rfl T.g_law_drawn.1 T.g_law_drawn.2 (F_law_drawn.up (by omega)).bn .nil (pass_own rfl rfl rfl rfl) (pa_cons (pv 0) (pa_cons (pv 1) (pa_cons (pe_op op_sub (pv 2) pe_int) pa_nil)))))
      (pss_cons (ps_if (pt_cmpR (op_eqP (by have := (hr).units; exact this)) (pv 3) pe_int (nomark _))
      (pss_one (ps_ret (pe_op op_addU (pe_op op_addU (pe_op op_addU (pe_op op_addU pe_str (pv 6)) pe_str) (pv 7)) pe_str)))
      pss_nil)
      (pss_one (ps_ret (pe_op op_addU (pe_op op_addU (pv 6) pe_str) (pv 7))))))))))), fun ws ka out B F0 Q hC hR hX => ?_⟩)
  obtain ⟨s, b, c, rfl, a, p, n, ls, dd, rfl, rfl, rfl, rfl, hp, hn0, hn, hd, hd3, hne, hl, hnm, rfl⟩ := hC
  have pw : 1 ≤ 2 ^ dd := Nat.one_le_two_pow
  have t1 := tk_lt p (m := 8) (by decide)
  have o1 := tk_ok hp (m := 8) (by decide)
  refine q_asg (ev_take (kr := []) (ev_var rfl) ev_int (hp.up (by omega)) (by decide) (by decide)) ?_
  generalize (tk p 8).2 = p1 at *
  generalize (tk p 8).1 = kind at *
  have t2 := tk_lt p1 (m := 3) (by decide)
  have o2 := tk_ok o1 (m := 3) (by decide)
  obtain ⟨m, hm, hm2⟩ : ∃ m : Nat, 1 + (tk p1 3).1 = ((m + 1 : Nat) : Int) ∧ m + 1 ≤ 3 := ⟨(tk p1 3).1.toNat, by omega, by omega⟩
  refine q_asgNR (evr_lc (ei_range1 (m := ((m + 1 : Nat) : Int)) (ea1 ((ev_addI ev_int (ev_take (kr := []) (ev_var rfl) ev_int (o1.up (by omega)) (by decide) (by decide))).to (by rw [hm]))) (by omega) (by omega)) (by decide) (by simp; omega) (fun i acc k => ∃ gs p', acc = stD gs ∧ gs.length = i ∧ (∀ g ∈ gs, g ∈ ls) ∧ k = [(a, .lst (Pl.ds p'))] ∧ p'.Ok (n + 2 + i)) ⟨[], (tk p1 3).2, rfl, rfl, fun _ h => (by cases h), rfl, o2.up (by omega)⟩ (fun i acc k _ => ⟨trivial, fun _ => trivial⟩) (fun i w acc k hw ⟨gs, p', e1, e2, e3, e4, hp'⟩ => ?hs)) (fun nd k1 c ⟨acc, e0, gs, p', e1, e2, e3, e4, hp'⟩ => ?go)
  case hs =>
    subst e1 e4
    have hi : i < m + 1 := by
      have := (List.getElem?_eq_some_iff.mp hw).1
      simpa using this
    exact .inr ⟨_, _, .str (drawS p' ls), et_yes, ev_draw (kr := []) (ev_var rfl) (ev_var rfl) (ev_var rfl) (hp'.up (by omega)) hne (by omega), gs ++ [drawS p' ls], _, stD_app gs [drawS p' ls], by rw [List.length_append, e2]; rfl, fun g hg => by
      rcases List.mem_append.mp hg with hg | hg
      · exact e3 g hg
      · rw [List.mem_singleton.mp hg]; exact drawS_mem hne p', rfl, (drawP_ok hp' hne).up (by push_cast; omega)⟩
  case go =>
    subst e0 e1 e4
    have gl : gs.length = m + 1 := by rw [e2]; simp
    rw [gl] at e2
    have hp4 : p'.Ok (n + 5) := hp'.up (by rw [List.length_map, List.length_range]; omega)
    have t4 := tk_lt p' (m := 4) (by decide)
    have o4 := tk_ok hp4 (m := 4) (by decide)
    have gnm : ∀ g ∈ gs, isNm g = true := fun g hg => hnm g (e3 g hg)
    obtain ⟨g0, gr, rfl⟩ : ∃ x t, gs = x :: t := by
      cases gs with
      | nil => simp at gl
      | cons x t => exact ⟨x, t, rfl⟩
    have j1 := jnC_le gnm
    have j2 := (join_len gnm).2
    obtain ⟨c1, c2⟩ := jnC_cnt gnm
    rw [List.length_cons] at gl j1 j2
    have one : (" " : Str).length = 1 := rfl
    have gl0 : g0.cps.toList.length ≤ 8 := by rw [← str_len]; exact isNm_len (gnm g0 List.mem_cons_self)
    have n1 := nm_cnt (gnm g0 List.mem_cons_self) 32 (by decide)
    have n2 := nm_cnt (gnm g0 List.mem_cons_self) 40 (by decide)
    refine Gp.frz (i := 5) (j := 1) rfl rfl ?_
    refine q_when (et_or (et_test (ev_eqI (ev_var rfl) ev_int)) (fun _ => et_test (ev_lt (ev_var rfl) ev_int))) (fun _ => ?_) (fun hb => ?_)
    · have jn : ∀ {ro : Ro} {k : Cells}, ro[5]? = some (some (.val (.lst (stD (g0 :: gr))))) → EvD K (tM1 (rJoin K) (tC (.str " ")) (tVar 5)) ro k (.val (.str (tx (jnC (g0 :: gr))))) k := fun h => (ev_join (ss := g0 :: gr) ev_str (ev_var h) .vl (by rw [one, List.length_cons]; omega)).to (by rw [jn_tx])
      generalize hjc : jnC (g0 :: gr) = J at *
      obtain ⟨cs, hcs, hdr⟩ : ∃ cs : List Nat, [g0.cps.toList, (91 :: J) ++ [93], (91 :: 94 :: J) ++ [93], [46]][(tk p' 4).1.toNat]? = some cs ∧ DrB dd cs := by
        rcases (by omega : (tk p' 4).1.toNat = 0 ∨ (tk p' 4).1.toNat = 1 ∨ (tk p' 4).1.toNat = 2 ∨ (tk p' 4).1.toNat = 3) with h | h | h | h <;> rw [h]
        · exact ⟨_, rfl, .leaf (by omega) (by omega) n2⟩
        · refine ⟨_, rfl, .leaf ?_ ?_ ?_⟩
          · simp only [List.length_append, List.length_cons, List.length_nil]; omega
          · simp [List.count_cons, c1]; omega
          · simp [List.count_cons, c2]
        · refine ⟨_, rfl, .leaf ?_ ?_ ?_⟩
          · simp only [List.length_append, List.length_cons, List.length_nil]; omega
          · simp [List.count_cons, c1]; omega
          · simp [List.count_cons, c2]
        · exact ⟨_, rfl, .leaf (by decide) (by decide) rfl⟩
      refine g_ret hR (ev_ixV (d := .str (tx cs)) (ds := stD ([g0.cps.toList, (91 :: J) ++ [93], (91 :: 94 :: J) ++ [93], [46]].map tx)) (evn_lst (ds := stD ([g0.cps.toList, (91 :: J) ++ [93], (91 :: 94 :: J) ++ [93], [46]].map tx)) (ea_cons (ev_ixV (d := .str g0) (ds := stD (g0 :: gr)) (ev_var rfl) ev_int .vl at0) (ea3 (ev_addT (l := 91 :: J) (m := [93]) (ev_addT (l := [91]) (m := J) ev_str (jn rfl) (by simp only [List.length_cons, List.length_nil]; omega)) ev_str (by simp only [List.length_cons, List.length_nil]; omega)) (ev_addT (l := 91 :: 94 :: J) (m := [93]) (ev_addT (l := [91, 94]) (m := J) ev_str (jn rfl) (by simp only [List.length_cons, List.length_nil]; omega)) ev_str (by simp only [List.length_cons, List.length_nil]; omega)) ev_str)) (Nat.le_of_ble_eq_true rfl)).lst (ev_take (kr := []) (ev_var rfl) ev_int (hp4.up (by omega)) (by decide) (by decide)) .vl (atZ t4.1 (stD_get (by rw [List.getElem?_map, hcs]; rfl)))) ⟨cs, _, rfl, rfl, o4.up (by omega), hdr⟩
    · obtain ⟨e, he⟩ : ∃ e, dd = e + 1 := by
        cases dd with
        | zero => simp at hb
        | succ e => exact ⟨e, rfl⟩
      subst he
      have pe : 12 * 2 ^ (e + 1) = 12 * 2 ^ e + 12 * 2 ^ e := by rw [Nat.pow_succ]; omega
      have pw2 : 1 ≤ 2 ^ e := Nat.one_le_two_pow
      have p8 : 2 ^ e ≤ 4 := Nat.le_trans (Nat.pow_le_pow_right (by decide) (show e ≤ 2 by omega)) (by decide)
      rw [pe] at hn
      refine q_call (kr := []) (ea3 (ev_var rfl) (ev_var rfl) ((ev_subI (ev_var rfl) ev_int).to (w' := .val (.int ((e : Nat) : Int))) (congrArg (fun z => W.val (.int z)) (by omega)))) ⟨_, _, _, rfl, a, p', n + 5, ls, e, rfl, rfl, rfl, rfl, hp4, by omega, by omega, by omega, by omega, hne, hl, hnm, rfl⟩ (fun o k ⟨t, p', h, _⟩ => ⟨_, h⟩) (fun d1 k1 ⟨x1, p2, h1, h2, o2, b1⟩ => ?_)
      cases h1
      subst h2
      have l1 := b1.l
      refine q_when (et_test (ev_eqI (ev_var rfl) ev_int)) (fun _ => ?_) (fun _ => ?_)
      · have t5 := tk_lt p2 (m := 2) (by decide)
        have o5 := tk_ok o2 (m := 2) (by decide)
        obtain ⟨z, hz, hzc⟩ : ∃ z : Nat, ([42, 63] : List Nat)[(tk p2 2).1.toNat]? = some z ∧ (z = 42 ∨ z = 63) := by
          rcases (by omega : (tk p2 2).1.toNat = 0 ∨ (tk p2 2).1.toNat = 1) with h | h <;> rw [h]
          · exact ⟨42, rfl, .inl rfl⟩
          · exact ⟨63, rfl, .inr rfl⟩
        have zi : atI (tx [42, 63]).cps.toList (tk p2 2).1 = some z := atZ t5.1 hz
        refine g_ret hR (ev_addT (l := ([40] ++ x1) ++ [41]) (m := [z]) (ev_addT (l := [40] ++ x1) (m := [41]) (ev_addT (l := [40]) (m := x1) ev_str (ev_var rfl) (by simp only [List.length_cons, List.length_nil]; omega)) ev_str (by simp only [List.length_append, List.length_cons, List.length_nil]; omega)) (ev_ixS (s := tx [42, 63]) ev_str (ev_take (kr := []) (ev_var rfl) ev_int (o2.up (by omega)) (by decide) (by decide)) (Nat.le_of_ble_eq_true rfl) zi) (by simp only [List.length_append, List.length_cons, List.length_nil]; omega)) ⟨_, _, rfl, rfl, o5.up (by rw [pe]; omega), b1.one ?_ ?_ ?_⟩
        · simp only [List.length_append, List.length_cons, List.length_nil]; omega
        · rcases hzc with rfl | rfl <;> simp [List.count_cons]
        · rcases hzc with rfl | rfl <;> simp [List.count_cons] <;> omega
      refine q_call (kr := []) (ea3 (ev_var rfl) (ev_var rfl) ((ev_subI (ev_var rfl) ev_int).to (w' := .val (.int ((e : Nat) : Int))) (congrArg (fun z => W.val (.int z)) (by omega)))) ⟨_, _, _, rfl, a, p2, _, ls, e, rfl, rfl, rfl, rfl, o2, by omega, by omega, by omega, by omega, hne, hl, hnm, rfl⟩ (fun o k ⟨t, p', h, _⟩ => ⟨_, h⟩) (fun d1 k1 ⟨x2, p3, h1, h2, o3, b2⟩ => ?_)
      cases h1
      subst h2
      have l2 := b2.l
      refine q_when (et_test (ev_eqI (ev_var rfl) ev_int)) (fun _ => ?_) (fun _ => ?_)
      · refine g_ret hR (ev_addT (l := (([40] ++ x1) ++ [32, 124, 32]) ++ x2) (m := [41]) (ev_addT (l := ([40] ++ x1) ++ [32, 124, 32]) (m := x2) (ev_addT (l := [40] ++ x1) (m := [32, 124, 32]) (ev_addT (l := [40]) (m := x1) ev_str (ev_var rfl) (by simp only [List.length_cons, List.length_nil]; omega)) ev_str (by simp only [List.length_append, List.length_cons, List.length_nil]; omega)) (ev_var rfl) (by simp only [List.length_append, List.length_cons, List.length_nil]; omega)) ev_str (by simp only [List.length_append, List.length_cons, List.length_nil]; omega)) ⟨_, p3, rfl, rfl, o3.up (by rw [pe]; omega), b1.two b2 ?_ ?_ ?_⟩
        · simp only [List.length_append, List.length_cons, List.length_nil]; omega
        · simp [List.count_cons]; omega
        · simp [List.count_cons] <;> omega
      · refine g_ret hR (ev_addT (l := x1 ++ [32]) (m := x2) (ev_addT (l := x1) (m := [32]) (ev_var rfl) ev_str (by simp only [List.length_cons, List.length_nil]; omega)) (ev_var rfl) (by simp only [List.length_append, List.length_cons, List.length_nil]; omega)) ⟨_, p3, rfl, rfl, o3.up (by rw [pe]; omega), b1.two b2 ?_ ?_ ?_⟩
        · simp only [List.length_append, List.length_cons, List.length_nil]; omega
        · simp [List.count_cons]; omega
        · simp [List.count_cons]
end
theorem sg36 {c : Nat} : c ∈ ("abcdefghijklmnopqrstuvwxyz0123456789" : Str).cps.toList ↔ c ∈ letL ∨ c ∈ digL := by
  have : ("abcdefghijklmnopqrstuvwxyz0123456789" : Str).cps.toList = letL ++ digL := by decide +kernel
  rw [this, List.mem_append]
def ct_law_in_name (K : PySem.W.Frag) : Ct := Ct2 fun a b ka out => ∃ c n : Nat, a = .val (.str ⟨#[c]⟩) ∧ b = .val (.int (n : Int)) ∧ ka = [] ∧ out = Rt (.bl (inNm c n)) []
section
variable {P : Program} {w : World} {K : PySem.W.Frag} {mg : Str → Option Value} {base : Heap}
theorem ok_law_in_name (T : Tx K mg w) : Fn P w K mg base 4 (He.ga K "_law_in_name") ["_law_sign", "_law_count"] (ct_law_in_name K) := by
  obtain ⟨fd, F⟩ := T.d_law_in_name
  refine fn_ok F sc_law_in_name (fun _ _ _ _ _ _ us hl => match us, hl with | [_, _], _ => rfl) ct2_len (fun cdv A outer s H E hr => ⟨_, (pss_one (ps_ret (pe_and (pe_cmpR op_lt (pv 1) pe_int (nomark _)) (pe_one (pe_cmpR op_inU (pv 0) pe_str (by with_unfolding_all rfl)))))), fun ws ka out B F0 Q hC hR hX => ?_⟩)
  obtain ⟨a, b, rfl, c, n, rfl, rfl, rfl, rfl⟩ := hC
  refine g_ret hR ((ev_andV (ev_lt (ev_var rfl) ev_int) (fun _ => ev_inS (ev_var rfl) ev_str)).to ?_) ⟨rfl, rfl⟩
  refine congrArg (fun z => W.val (.bl z)) ?_
  unfold inNm okC
  rw [show decide (((n : Int)) < 8) = decide (n < 8) from decide_eq_decide.mpr (by omega)]
  congr 1
  rw [Bool.eq_iff_iff, decide_eq_true_eq, Bool.or_eq_true, decide_eq_true_eq, decide_eq_true_eq]
  exact sg36
end
theorem sg_eq (c d : Nat) : ((⟨#[c]⟩ : Str) == (⟨#[d]⟩ : Str)) = decide (c = d) := by
  rw [Bool.eq_iff_iff, beq_iff_eq, decide_eq_true_eq]
  constructor
  · intro z
    cases z
    rfl
  · rintro rfl
    rfl
def ct_law_item (K : PySem.W.Frag) : Ct := Ct2 fun a b ka out => ∃ (c : Nat) (p : Addr) (B : List Nat), a = .val (.str ⟨#[c]⟩) ∧ b = .val (.adr p) ∧ ka = [(p, .lst (nmD B))] ∧ B.length ≤ 2000 ∧ out = Rt (.str (itmM c B).1.s) [(p, .lst (nmD (itmM c B).2))]
section
variable {P : Program} {w : World} {K : PySem.W.Frag} {mg : Str → Option Value} {base : Heap}
theorem ok_law_item (T : Tx K mg w) : Fn P w K mg base 4 (He.ga K "_law_item") ["_law_sign", "_law_bars"] (ct_law_item K) := by
  obtain ⟨fd, F⟩ := T.d_law_item
  refine fn_ok F sc_law_item (fun _ _ _ _ _ _ us hl => match us, hl with | [_, _], _ => rfl) ct2_len (fun cdv A outer s H E hr => ⟨_, (pss_cons (ps_if (pt_cmpR op_inU (pv 0) pe_str (by with_unfolding_all rfl))
      (pss_one (ps_ret pe_str))
      pss_nil)
      (pss_cons (ps_if (pt_cmpR (op_eqP (by have := (hr).units; exact this)) (pv 0) pe_str (nomark _))
      (pss_cons (ps_expr (pe_bm PySem.F.plainAttrs_list PySem.F.slot_list_append PySem.F.type_list_append mt_append (pv 1) (pa_cons pe_int pa_nil)))
      (pss_one (ps_ret pe_str)))
      pss_nil)
      (pss_one (ps_ret (pe_dget2 (hu1 hr) (pe_disp (pps_cons pe_str pe_str (pps_cons pe_str pe_str pps_nil)) rfl rfl (by simp) (by decide)) (pv 0) pe_str ⟨rfl, rfl, rfl, rfl⟩))))), fun ws ka out B F0 Q hC hR hX => ?_⟩)
  obtain ⟨a, b, rfl, c, p, B, rfl, rfl, rfl, hl, rfl⟩ := hC
  have e0 : itmM c B = if c ∈ letL then (.name, B) else if c = 40 then (.item, B ++ [0]) else if c = 46 then (.after, B) else if c = 91 then (.opn, B) else (.wrong, B) := rfl
  rw [e0] at hR
  refine q_when (b := decide (c ∈ letL)) (et_test (ev_inS (ev_var rfl) ev_str)) (fun h => ?_) (fun h => ?_)
  · rw [if_pos (of_decide_eq_true h)] at hR
    exact g_ret hR ev_str ⟨rfl, rfl⟩
  rw [if_neg (of_decide_eq_false h)] at hR
  refine q_when (b := decide (c = 40)) ((et_test (ev_eqS (ev_var rfl) ev_str)).to (sg_eq c 40)) (fun h => ?_) (fun h => ?_)
  · rw [if_pos (of_decide_eq_true h)] at hR
    refine q_app (j0 := 0) (j := 0) (d := .int 0) (ev_var rfl) rfl ev_int rfl (by unfold nmD; rw [List.length_map]; omega) ?_
    refine g_ret hR ev_str ⟨rfl, ?_⟩
    show [(p, Nd.lst (nmD B ++ [.int 0]))] = [(p, Nd.lst (nmD (B ++ [0])))]
    unfold nmD
    rw [List.map_append]
    rfl
  rw [if_neg (of_decide_eq_false h)] at hR
  refine g_ret hR ((ev_dget2 (ds := [(.inr ".", .str "after"), (.inr "[", .str "open")]) (z := .str "wrong") (EvN.dic (evn_disp2 (by decide) ev_str ev_str ev_str ev_str)) .v (ev_var rfl) ev_str .v).to (w' := .val (.str (if c = 46 then (Md.after, B) else if c = 91 then (.opn, B) else (.wrong, B)).1.s)) ?_) ⟨rfl, ?_⟩
  · have g : getT ([(.inr ".", .str "after"), (.inr "[", .str "open")] : List (Key × D)) (.inr (⟨#[c]⟩ : Str)) = if c = 46 then some (.str "after") else if c = 91 then some (.str "open") else none := by
      by_cases h1 : c = 46
      · subst h1
        rfl
      · rw [if_neg h1]
        by_cases h2 : c = 91
        · subst h2
          rfl
        · rw [if_neg h2]
          have n1 : ¬ ((.inr (⟨#[46]⟩ : Str) : Key) = .inr ⟨#[c]⟩) := fun z => h1 (by cases z; rfl)
          have n2 : ¬ ((.inr (⟨#[91]⟩ : Str) : Key) = .inr ⟨#[c]⟩) := fun z => h2 (by cases z; rfl)
          show getT ([(.inr (⟨#[46]⟩ : Str), .str "after"), (.inr (⟨#[91]⟩ : Str), .str "open")] : List (Key × D)) (.inr (⟨#[c]⟩ : Str)) = none
          simp [getT, n1, n2]
    rw [g]
    by_cases h1 : c = 46
    · rw [if_pos h1, if_pos h1]
      rfl
    · rw [if_neg h1, if_neg h1]
      by_cases h2 : c = 91
      · rw [if_pos h2, if_pos h2]
        rfl
      · rw [if_neg h2, if_neg h2]
        rfl
  · by_cases h1 : c = 46
    · rw [if_pos h1]
    · rw [if_neg h1]
      by_cases h2 : c = 91
      · rw [if_pos h2]
      · rw [if_neg h2]
end
def ct_law_after (K : PySem.W.Frag) : Ct := Ct2 fun a b ka out => ∃ (c : Nat) (p : Addr) (B : List Nat), a = .val (.str ⟨#[c]⟩) ∧ b = .val (.adr p) ∧ ka = [(p, .lst (nmD B))] ∧ B.length ≤ 2000 ∧ (∀ x ∈ B, x ≤ 1) ∧ out = Rt (.str (aftM c B).1.s) [(p, .lst (nmD (aftM c B).2))]
section
variable {P : Program} {w : World} {K : PySem.W.Frag} {mg : Str → Option Value} {base : Heap}
theorem ok_law_after (T : Tx K mg w) : Fn P w K mg base 4 (He.ga K "_law_after") ["_law_sign", "_law_bars"] (ct_law_after K) := by
  obtain ⟨fd, F⟩ := T.d_law_after
  refine fn_ok F sc_law_after (fun _ _ _ _ _ _ us hl => match us, hl with | [_, _], _ => rfl) ct2_len (fun cdv A outer s H E hr => ⟨_, (pss_cons (ps_if (pt_cmpR (op_eqP (by have := (hr).units; exact this)) (pv 0) pe_str (nomark _))
      (pss_one (ps_ret pe_str))
      pss_nil)
      (pss_cons (ps_if (PW.pt (pw_and (pt_cmpR (op_eqP (by have := (hr).units; exact this)) (pv 0) pe_str (nomark _)) (pw_and1 (pt_cmpR (op_neP (by have := (hr).units; exact this)) (pv 1) (pe_lst pa_nil) (nomark _)))))
      (pss_one (ps_ret (pe_ix ix_seq (pe_lst (pa_cons pe_str (pa_cons pe_str pa_nil))) (pe_bm0 PySem.F.plainAttrs_list PySem.F.slot_list_pop PySem.F.type_list_pop mt_pop (pv 1)) fun _ _ => rfl)))
      pss_nil)
      (pss_one (ps_ret pe_str)))), fun ws ka out B F0 Q hC hR hX => ?_⟩)
  obtain ⟨a, b, rfl, c, p, B, rfl, rfl, rfl, hl, hB, rfl⟩ := hC
  have e0 : aftM c B = if c = 32 then (.space, B) else if c = 41 ∧ B ≠ [] then (if B.getLastD 0 = 0 then .close else .after, B.dropLast) else (.wrong, B) := rfl
  rw [e0] at hR
  refine q_when (b := decide (c = 32)) ((et_test (ev_eqS (ev_var rfl) ev_str)).to (sg_eq c 32)) (fun h => ?_) (fun h => ?_)
  · rw [if_pos (of_decide_eq_true h)] at hR
    exact g_ret hR ev_str ⟨rfl, rfl⟩
  rw [if_neg (of_decide_eq_false h)] at hR
  refine q_when (b := decide (c = 41) && !decide (B = [])) (et_and ((et_test (ev_eqS (ev_var rfl) ev_str)).to (sg_eq c 41)) (fun _ => (et_test (ev_ne (d := .lst (nmD B)) (e := .lst []) (ev_var rfl) (evn_lst (ds := []) ea_nil (by decide)).lst (.c 0 rfl) .v (pl_nmD B 60) rfl)).to (by cases B <;> rfl))) (fun h => ?_) (fun h => ?_)
  · have h : c = 41 ∧ B ≠ [] := by simpa using h
    rw [if_pos h] at hR
    obtain ⟨B0, x, rfl⟩ : ∃ B0 x, B = B0 ++ [x] := ⟨B.dropLast, B.getLast h.2, (List.dropLast_concat_getLast h.2).symm⟩
    obtain ⟨l1, l2, _⟩ := last_app B0 x
    rw [l1, l2] at hR
    have hx := hB x (by simp)
    have ca : nmD (B0 ++ [x]) = nmD B0 ++ [.int (x : Int)] := by unfold nmD; rw [List.map_append]; rfl
    rw [ca]
    refine g_ret hR (ev_ixV (d := .str (if x = 0 then Md.close else .after).s) (ds := [.str "close", .str "after"]) (evn_lst (ds := [.str "close", .str "after"]) (ea2 ev_str ev_str) (Nat.le_of_ble_eq_true rfl)).lst (ev_pop (j := 0) (d := .int (x : Int)) (ev_var rfl) rfl) .vl ?_) ⟨rfl, rfl⟩
    rcases (by omega : x = 0 ∨ x = 1) with rfl | rfl
    · exact at0
    · exact atI_nat (j := 1) rfl
  · have h : ¬ (c = 41 ∧ B ≠ []) := fun z => by rw [decide_eq_true z.1, decide_eq_false z.2] at h; cases h
    rw [if_neg h] at hR
    exact g_ret hR ev_str ⟨rfl, rfl⟩
end
theorem md_eq (m n : Md) : (m.s == n.s) = decide (m = n) := by cases m <;> cases n <;> decide
theorem md_s {m n : Md} (h : m.s = n.s) : m = n := of_decide_eq_true ((md_eq m n).symm.trans (beq_iff_eq.mpr h))
def ct_law_bracket (K : PySem.W.Frag) : Ct := Ct3 fun a b e ka out => ∃ (m : Md) (c n : Nat), a = .val (.str m.s) ∧ b = .val (.str ⟨#[c]⟩) ∧ e = .val (.int (n : Int)) ∧ ka = [] ∧ out = Rt (.str (bracketM m c n).s) []
section
variable {P : Program} {w : World} {K : PySem.W.Frag} {mg : Str → Option Value} {base : Heap}
theorem ok_law_bracket (T : Tx K mg w) (F_law_in_name : Fn P w K mg base 4 (He.ga K "_law_in_name") ["_law_sign", "_law_count"] (ct_law_in_name K)) : Fn P w K mg base 6 (He.ga K "_law_bracket") ["_law_mode", "_law_sign", "_law_count"] (ct_law_bracket K) := by
  obtain ⟨fd, F⟩ := T.d_law_bracket
  refine fn_ok F sc_law_bracket (fun _ _ _ _ _ _ us hl => match us, hl with | [_, _, _], _ => rfl) ct3_len (fun cdv A outer s H E hr => ⟨_, (pss_cons (ps_if (PW.pt (pw_and (pt_cmpR (op_eqP (by have := (hr).units; exact this)) (pv 0) pe_str (nomark _)) (pw_and1 (PW.pt (pw_or (pt_val (pe_call (F_law_in_name.up (by decide)).ok hr rfl T.g_law_in_name.1 T.g_law_in_name.2 (F_law_in_name.up (by decide)).bn .nil (pass_own rfl rfl rfl rfl) (pa_cons (pv 1) (pa_cons (pv 2) pa_nil)))) (pw_or1 (pt_cmpR op_inU (pv 1) pe_str (by with_unfolding_all rfl))))))))
      (pss_one (ps_ret (pe_dget2 (hu1 hr) (pe_disp (pps_cons pe_str pe_str (pps_cons pe_str pe_str pps_nil)) rfl rfl (by simp) (by decide)) (pv 1) pe_str ⟨rfl, rfl, rfl, rfl⟩)))
      pss_nil)
      (pss_cons (ps_if (PW.pt (pw_and (pt_cmpR (op_eqP (by have := (hr).units; exact this)) (pv 0) pe_str (nomark _)) (pw_and1 (pt_cmpR (op_eqP (by have := (hr).units; exact this)) (pv 1) pe_str (nomark _)))))
      (pss_one (ps_ret pe_str))
      pss_nil)
      (pss_cons (ps_if (PW.pt (pw_and (pt_cmpR (op_neP (by have := (hr).units; exact this)) (pv 0) pe_str (nomark _)) (pw_and1 (pt_cmpR op_inU (pv 1) pe_str (by with_unfolding_all rfl)))))
      (pss_one (ps_ret pe_str))
      pss_nil)
      (pss_one (ps_ret pe_str))))), fun ws ka out B F0 Q hC hR hX => ?_⟩)
  obtain ⟨a, b, e, rfl, m, c, n, rfl, rfl, rfl, rfl, rfl⟩ := hC
  have e0 : bracketM m c n = if m = .inname ∧ (inNm c n = true ∨ c = 32 ∨ c = 93) then (if c = 32 then .next else if c = 93 then .after else .inname) else if m = .opn ∧ c = 94 then .caret else if m ≠ .inname ∧ c ∈ letL then .inname else .wrong := rfl
  rw [e0] at hR
  have in2 : decide (c ∈ (" ]" : Str).cps.toList) = (decide (c = 32) || decide (c = 93)) := by
    have : (" ]" : Str).cps.toList = [32, 93] := by decide +kernel
    rw [this, Bool.eq_iff_iff]
    simp
  refine q_when (b := decide (m = .inname) && (inNm c n || (decide (c = 32) || decide (c = 93)))) (et_and ((et_test (ev_eqS (ev_var rfl) ev_str)).to (md_eq m .inname)) (fun _ => et_or (et_B (ev_callP (ea2 (ev_var rfl) (ev_var rfl)) ⟨_, _, rfl, c, n, rfl, rfl, rfl, rfl⟩)) (fun _ => (et_test (ev_inS (ev_var rfl) ev_str)).to in2))) (fun h => ?_) (fun h => ?_)
  · have h : m = .inname ∧ (inNm c n = true ∨ c = 32 ∨ c = 93) := by simpa using h
    rw [if_pos h] at hR
    refine g_ret hR ((ev_dget2 (ds := [(.inr " ", .str "next"), (.inr "]", .str "after")]) (z := .str "inname") (EvN.dic (evn_disp2 (by decide) ev_str ev_str ev_str ev_str)) .v (ev_var rfl) ev_str .v).to (w' := .val (.str (if c = 32 then Md.next else if c = 93 then .after else .inname).s)) ?_) ⟨rfl, rfl⟩
    by_cases h1 : c = 32
    · subst h1
      rfl
    · by_cases h2 : c = 93
      · subst h2
        rfl
      · have n1 : ¬ ((.inr (⟨#[32]⟩ : Str) : Key) = .inr ⟨#[c]⟩) := fun z => h1 (by cases z; rfl)
        have n2 : ¬ ((.inr (⟨#[93]⟩ : Str) : Key) = .inr ⟨#[c]⟩) := fun z => h2 (by cases z; rfl)
        have g : getT ([(.inr (⟨#[32]⟩ : Str), .str "next"), (.inr (⟨#[93]⟩ : Str), .str "after")] : List (Key × D)) (.inr (⟨#[c]⟩ : Str)) = none := by simp [getT, n1, n2]
        rw [if_neg h1, if_neg h2]
        show W.val ((getT ([(.inr (⟨#[32]⟩ : Str), .str "next"), (.inr (⟨#[93]⟩ : Str), .str "after")] : List (Key × D)) (.inr (⟨#[c]⟩ : Str))).getD (.str "inname")) = _
        rw [g]
        rfl
  have h : ¬ (m = .inname ∧ (inNm c n = true ∨ c = 32 ∨ c = 93)) := fun z => by
    have : (decide (m = .inname) && (inNm c n || (decide (c = 32) || decide (c = 93)))) = true := by simpa using z
    rw [h] at this
    cases this
  rw [if_neg h] at hR
  refine q_when (b := decide (m = .opn) && decide (c = 94)) (et_and ((et_test (ev_eqS (ev_var rfl) ev_str)).to (md_eq m .opn)) (fun _ => (et_test (ev_eqS (ev_var rfl) ev_str)).to (sg_eq c 94))) (fun h => ?_) (fun h => ?_)
  · have h : m = .opn ∧ c = 94 := by simpa using h
    rw [if_pos h] at hR
    exact g_ret hR ev_str ⟨rfl, rfl⟩
  have h : ¬ (m = .opn ∧ c = 94) := fun z => by rw [decide_eq_true z.1, decide_eq_true z.2] at h; cases h
  rw [if_neg h] at hR
  refine q_when (b := !decide (m = .inname) && decide (c ∈ letL)) (et_and ((et_test (ev_neS (ev_var rfl) ev_str)).to (congrArg (fun z => !z) (md_eq m .inname))) (fun _ => et_test (ev_inS (ev_var rfl) ev_str))) (fun h => ?_) (fun h => ?_)
  · have h : m ≠ .inname ∧ c ∈ letL := by simpa using h
    rw [if_pos h] at hR
    exact g_ret hR ev_str ⟨rfl, rfl⟩
  · have h : ¬ (m ≠ .inname ∧ c ∈ letL) := fun z => by rw [decide_eq_false z.1, decide_eq_true z.2] at h; cases h
    rw [if_neg h] at hR
    exact g_ret hR ev_str ⟨rfl, rfl⟩
end
theorem md_in (m : Md) (ls : List Md) : decide (m.s ∈ ls.map Md.s) = decide (m ∈ ls) := by
  rw [Bool.eq_iff_iff, decide_eq_true_eq, decide_eq_true_eq, List.mem_map]
  exact ⟨fun ⟨n, hn, e⟩ => md_s e ▸ hn, fun h => ⟨m, h, rfl⟩⟩
theorem goM_ok {m : Md} {c n : Nat} {B : List Nat} (hB : ∀ x ∈ B, x ≤ 1) : (∀ x ∈ (goM m c n B).2, x ≤ 1) ∧ (goM m c n B).2.length ≤ B.length + 1 := by
  have it : (∀ x ∈ (itmM c B).2, x ≤ 1) ∧ (itmM c B).2.length ≤ B.length + 1 := by
    unfold itmM
    split
    · exact ⟨hB, Nat.le_succ _⟩
    · split
      · refine ⟨fun x hx => ?_, by show (B ++ [0]).length ≤ _; rw [List.length_append]; exact Nat.le_refl _⟩
        rcases List.mem_append.mp hx with h | h
        · exact hB x h
        · rw [List.mem_singleton.mp h]; exact Nat.zero_le _
      · split
        · exact ⟨hB, Nat.le_succ _⟩
        · split <;> exact ⟨hB, Nat.le_succ _⟩
  have af : (∀ x ∈ (aftM c B).2, x ≤ 1) ∧ (aftM c B).2.length ≤ B.length + 1 := by
    unfold aftM
    split
    · exact ⟨hB, Nat.le_succ _⟩
    · split
      · exact ⟨fun x hx => hB x (List.dropLast_subset _ hx), by show B.dropLast.length ≤ _; rw [List.length_dropLast]; omega⟩
      · exact ⟨hB, Nat.le_succ _⟩
  unfold goM
  split
  · exact ⟨hB, Nat.le_succ _⟩
  · split
    · exact ⟨hB, Nat.le_succ _⟩
    · split
      · exact af
      · split
        · exact ⟨hB, Nat.le_succ _⟩
        · split
          · exact ⟨hB, Nat.le_succ _⟩
          · split
            · refine ⟨fun x hx => ?_, by show (B.dropLast ++ [1]).length ≤ _; rw [List.length_append, List.length_dropLast]; show B.length - 1 + 1 ≤ _; omega⟩
              rcases List.mem_append.mp hx with h | h
              · exact hB x (List.dropLast_subset _ h)
              · rw [List.mem_singleton.mp h]; exact Nat.le_refl _
            · exact it
def ct_law_goes (K : PySem.W.Frag) : Ct := Ct4 fun a b e f ka out => ∃ (m : Md) (c n : Nat) (p : Addr) (B : List Nat), a = .val (.str m.s) ∧ b = .val (.str ⟨#[c]⟩) ∧ e = .val (.int (n : Int)) ∧ f = .val (.adr p) ∧ ka = [(p, .lst (nmD B))] ∧ B.length ≤ 2000 ∧ (∀ x ∈ B, x ≤ 1) ∧ out = Rt (.str (goM m c n B).1.s) [(p, .lst (nmD (goM m c n B).2))]
section
variable {P : Program} {w : World} {K : PySem.W.Frag} {mg : Str → Option Value} {base : Heap}
theorem ok_law_goes (T : Tx K mg w) (F_law_in_name : Fn P w K mg base 4 (He.ga K "_law_in_name") ["_law_sign", "_law_count"] (ct_law_in_name K)) (F_law_item : Fn P w K mg base 4 (He.ga K "_law_item") ["_law_sign", "_law_bars"] (ct_law_item K)) (F_law_after : Fn P w K mg base 4 (He.ga K "_law_after") ["_law_sign", "_law_bars"] (ct_law_after K)) (F_law_bracket : Fn P w K mg base 6 (He.ga K "_law_bracket") ["_law_mode", "_law_sign", "_law_count"] (ct_law_bracket K)) : Fn P w K mg base 8 (He.ga K "_law_goes") ["_law_mode", "_law_sign", "_law_count", "_law_bars"] (ct_law_goes K) := by
  obtain ⟨fd, F⟩ := T.d_law_goes
  refine fn_ok F sc_law_goes (fun _ _ _ _ _ _ us hl => match us, hl with | [_, _, _, _], _ => rfl) ct4_len (fun cdv A outer s H E hr => ⟨_, (pss_cons (ps_if (pt_cmpR op_inU (pv 0) (pe_tup (pa_cons pe_str (pa_cons pe_str (pa_cons pe_str (pa_cons pe_str pa_nil))))) (by with_unfolding_all rfl))
      (pss_one (ps_ret (pe_call (F_law_bracket.up (by decide)).ok hr rfl T.g_law_bracket.1 T.g_law_bracket.2 (F_law_bracket.up (by decide)).bn .nil (pass_own rfl rfl rfl rfl) (pa_cons (pv 0) (pa_cons (pv 1) (pa_cons (pv 2) pa_nil))))))
      pss_nil)
      (pss_cons (ps_if (PW.pt (pw_and (pt_cmpR (op_eqP (by have := (hr).units; exact this)) (pv 0) pe_str (nomark _)) (pw_and1 (pt_val (pe_call (F_law_in_name.up (by decide)).ok hr rfl T.g_law_in_name.1 T.g_law_in_name.2 (F_law_in_name.up (by decide)).bn .nil (pass_own rfl rfl rfl rfl) (pa_cons (pv 1) (pa_cons (pv 2) pa_nil)))))))
      (pss_one (ps_ret pe_str))
      pss_nil)
      (pss_cons (ps_if (pt_cmpR op_inU (pv 0) (pe_tup (pa_cons pe_str (pa_cons pe_str pa_nil))) (by with_unfolding_all rfl))
      (pss_one (ps_ret (pe_call (F_law_after.up (by decide)).ok hr rfl T.g_law_after.1 T.g_law_after.2 (F_law_after.up (by decide)).bn .nil (pass_own rfl rfl rfl rfl) (pa_cons (pv 1) (pa_cons (pv 3) pa_nil)))))
      pss_nil)
      (pss_cons (ps_if (pt_cmpR (op_eqP (by have := (hr).units; exact this)) (pv 0) pe_str (nomark _))
      (pss_one (ps_ret (pe_dget2 (hu1 hr) (pe_disp (pps_cons pe_str pe_str pps_nil) rfl rfl (by simp) (by decide)) (pv 1) pe_str ⟨rfl, rfl, rfl, rfl⟩)))
      pss_nil)
      (pss_cons (ps_if (pt_cmpR (op_eqP (by have := (hr).units; exact this)) (pv 0) pe_str (nomark _))
      (pss_one (ps_ret (pe_dget2 (hu1 hr) (pe_disp (pps_cons pe_str pe_str (pps_cons pe_str pe_str pps_nil)) rfl rfl (by simp) (by decide)) (pv 1) pe_str ⟨rfl, rfl, rfl, rfl⟩)))
      pss_nil)
      (pss_cons (ps_if (PW.pt (pw_and (pt_cmpR (op_eqP (by have := (hr).units; exact this)) (pv 0) pe_str (nomark _)) (pw_and (pt_cmpR (op_eqP (by have := (hr).units; exact this)) (pv 1) pe_str (nomark _)) (pw_and (pt_cmpR (op_neP (by have := (hr).units; exact this)) (pv 3) (pe_lst pa_nil) (nomark _)) (pw_and1 (pt_cmpR (op_eqP (by have := (hr).units; exact this)) (pe_ix ix_seq (pv 3) (pe_un un_neg pe_int) fun _ _ => rfl) pe_int (nomark _)))))))
      (pss_cons (ps_asg pe_int (pg_sub (pv 3) (pe_un un_neg pe_int) set_list))
      (pss_one (ps_ret pe_str)))
      pss_nil)
      (pss_one (ps_ret (pe_call (F_law_item.up (by decide)).ok hr rfl T.g_law_item.1 T.g_law_item.2 (F_law_item.up (by decide)).bn .nil (pass_own rfl rfl rfl rfl) (pa_cons (pv 1) (pa_cons (pv 3) pa_nil))))))))))), fun ws ka out B F0 Q hC hR hX => ?_⟩)
  obtain ⟨a, b, e, f, rfl, m, c, n, p, B, rfl, rfl, rfl, rfl, rfl, hl, hB, rfl⟩ := hC
  have e0 : goM m c n B = if m = .opn ∨ m = .caret ∨ m = .inname ∨ m = .next then (bracketM m c n, B)
    else if m = .name ∧ inNm c n = true then (.name, B)
    else if m = .name ∨ m = .after then aftM c B
    else if m = .bar then (if c = 32 then .item else .wrong, B)
    else if m = .close then (if c = 42 ∨ c = 63 then .after else .wrong, B)
    else if m = .space ∧ c = 124 ∧ B ≠ [] ∧ B.getLastD 0 = 0 then (.bar, B.dropLast ++ [1])
    else itmM c B := rfl
  rw [e0] at hR
  refine q_when (b := decide (m ∈ [Md.opn, .caret, .inname, .next])) ((et_test (ev_inL (ss := [Md.opn, .caret, .inname, .next].map Md.s) (ev_var rfl) (ev_tup (ds := stD ([Md.opn, .caret, .inname, .next].map Md.s)) (ea_cons ev_str (ea3 ev_str ev_str ev_str)) (Nat.le_of_ble_eq_true rfl)) .vt)).to (md_in m _)) (fun h => ?_) (fun h => ?_)
  · have h : m = .opn ∨ m = .caret ∨ m = .inname ∨ m = .next := by simpa using h
    rw [if_pos h] at hR
    exact g_ret hR (ev_callP (d := .str (bracketM m c n).s) (ea3 (ev_var rfl) (ev_var rfl) (ev_var rfl)) ⟨_, _, _, rfl, m, c, n, rfl, rfl, rfl, rfl, rfl⟩) ⟨rfl, rfl⟩
  have h : ¬ (m = .opn ∨ m = .caret ∨ m = .inname ∨ m = .next) := by simpa using h
  rw [if_neg h] at hR
  refine q_when (b := decide (m = .name) && inNm c n) (et_and ((et_test (ev_eqS (ev_var rfl) ev_str)).to (md_eq m .name)) (fun _ => et_B (ev_callP (ea2 (ev_var rfl) (ev_var rfl)) ⟨_, _, rfl, c, n, rfl, rfl, rfl, rfl⟩))) (fun h => ?_) (fun h => ?_)
  · have h : m = .name ∧ inNm c n = true := by simpa using h
    rw [if_pos h] at hR
    exact g_ret hR ev_str ⟨rfl, rfl⟩
  have h : ¬ (m = .name ∧ inNm c n = true) := fun z => by rw [decide_eq_true z.1, z.2] at h; cases h
  rw [if_neg h] at hR
  refine q_when (b := decide (m ∈ [Md.name, .after])) ((et_test (ev_inL (ss := [Md.name, .after].map Md.s) (ev_var rfl) (ev_tup (ds := stD ([Md.name, .after].map Md.s)) (ea2 ev_str ev_str) (Nat.le_of_ble_eq_true rfl)) .vt)).to (md_in m _)) (fun h => ?_) (fun h => ?_)
  · have h : m = .name ∨ m = .after := by simpa using h
    rw [if_pos h] at hR
    exact g_ret hR (ev_callA (d := .str (aftM c B).1.s) (ea2 (ev_var rfl) (ev_var rfl)) ⟨_, _, rfl, c, p, B, rfl, rfl, rfl, hl, hB, rfl⟩) ⟨rfl, rfl⟩
  have h : ¬ (m = .name ∨ m = .after) := by simpa using h
  rw [if_neg h] at hR
  refine q_when (b := decide (m = .bar)) ((et_test (ev_eqS (ev_var rfl) ev_str)).to (md_eq m .bar)) (fun h => ?_) (fun h => ?_)
  · rw [if_pos (of_decide_eq_true h)] at hR
    refine g_ret hR ((ev_dget2 (ds := [(.inr " ", .str "item")]) (z := .str "wrong") (EvN.dic (evn_disp1 ev_str ev_str)) .v (ev_var rfl) ev_str .v).to (w' := .val (.str (if c = 32 then Md.item else .wrong).s)) ?_) ⟨rfl, rfl⟩
    by_cases h1 : c = 32
    · subst h1
      rfl
    · have n1 : ¬ ((.inr (⟨#[32]⟩ : Str) : Key) = .inr ⟨#[c]⟩) := fun z => h1 (by cases z; rfl)
      have g : getT ([(.inr (⟨#[32]⟩ : Str), .str "item")] : List (Key × D)) (.inr (⟨#[c]⟩ : Str)) = none := by simp [getT, n1]
      rw [if_neg h1]
      show W.val ((getT ([(.inr (⟨#[32]⟩ : Str), .str "item")] : List (Key × D)) (.inr (⟨#[c]⟩ : Str))).getD (.str "wrong")) = _
      rw [g]
      rfl
  rw [if_neg (of_decide_eq_false h)] at hR
  refine q_when (b := decide (m = .close)) ((et_test (ev_eqS (ev_var rfl) ev_str)).to (md_eq m .close)) (fun h => ?_) (fun h => ?_)
  · rw [if_pos (of_decide_eq_true h)] at hR
    refine g_ret hR ((ev_dget2 (ds := [(.inr "*", .str "after"), (.inr "?", .str "after")]) (z := .str "wrong") (EvN.dic (evn_disp2 (by decide) ev_str ev_str ev_str ev_str)) .v (ev_var rfl) ev_str .v).to (w' := .val (.str (if c = 42 ∨ c = 63 then Md.after else .wrong).s)) ?_) ⟨rfl, rfl⟩
    by_cases h1 : c = 42
    · subst h1
      rfl
    · by_cases h2 : c = 63
      · subst h2
        rfl
      · have n1 : ¬ ((.inr (⟨#[42]⟩ : Str) : Key) = .inr ⟨#[c]⟩) := fun z => h1 (by cases z; rfl)
        have n2 : ¬ ((.inr (⟨#[63]⟩ : Str) : Key) = .inr ⟨#[c]⟩) := fun z => h2 (by cases z; rfl)
        have g : getT ([(.inr (⟨#[42]⟩ : Str), .str "after"), (.inr (⟨#[63]⟩ : Str), .str "after")] : List (Key × D)) (.inr (⟨#[c]⟩ : Str)) = none := by simp [getT, n1, n2]
        rw [if_neg (by rintro (z | z); exact h1 z; exact h2 z)]
        show W.val ((getT ([(.inr (⟨#[42]⟩ : Str), .str "after"), (.inr (⟨#[63]⟩ : Str), .str "after")] : List (Key × D)) (.inr (⟨#[c]⟩ : Str))).getD (.str "wrong")) = _
        rw [g]
        rfl
  rw [if_neg (of_decide_eq_false h)] at hR
  by_cases hb : B = []
  · subst hb
    have hn : ¬ (m = .space ∧ c = 124 ∧ ([] : List Nat) ≠ [] ∧ ([] : List Nat).getLastD 0 = 0) := fun z => z.2.2.1 rfl
    rw [if_neg hn] at hR
    refine q_when (k1 := [(p, .lst (nmD []))]) (b := false) ?_ (fun z => by cases z) (fun _ => ?_)
    · have : (decide (m = .space) && (decide (c = 124) && false)) = false := by cases decide (m = .space) <;> cases decide (c = 124) <;> rfl
      refine EvT.to ?_ this
      refine et_and ?_ (fun _ => et_and ?_ (fun _ => et_and0 ?_))
      · exact EvT.to (et_test (ev_eqS (ev_var rfl) ev_str)) (md_eq m .space)
      · exact EvT.to (et_test (ev_eqS (ev_var rfl) ev_str)) (sg_eq c 124)
      · exact (et_test (ev_ne (d := .lst []) (e := .lst []) (ev_var rfl) (evn_lst (ds := []) ea_nil (by decide)).lst (.c 0 rfl) .v rfl rfl)).to rfl
    · exact g_ret hR (ev_callA (d := .str (itmM c []).1.s) (ea2 (ev_var rfl) (ev_var rfl)) ⟨_, _, rfl, c, p, [], rfl, rfl, rfl, hl, rfl⟩) ⟨rfl, rfl⟩
  obtain ⟨B0, x, rfl⟩ : ∃ B0 x, B = B0 ++ [x] := ⟨B.dropLast, B.getLast hb, (List.dropLast_concat_getLast hb).symm⟩
  obtain ⟨l1, l2, l3⟩ := last_app B0 x
  have ca : nmD (B0 ++ [x]) = nmD B0 ++ [.int (x : Int)] := by unfold nmD; rw [List.map_append]; rfl
  have lastx : atI (nmD B0 ++ [.int (x : Int)]) (-1) = some (.int (x : Int)) := at_last (by rw [List.getLast?_concat])
  rw [ca]
  refine q_when (k1 := [(p, .lst (nmD B0 ++ [.int (x : Int)]))]) (b := decide (m = .space) && (decide (c = 124) && decide (x = 0))) ?_ (fun h => ?_) (fun h => ?_)
  · refine et_and ?_ (fun _ => et_and ?_ (fun _ => et_and1 (k1 := [(p, .lst (nmD B0 ++ [.int (x : Int)]))]) ?_ ?_))
    · exact EvT.to (et_test (ev_eqS (ev_var rfl) ev_str)) (md_eq m .space)
    · exact EvT.to (et_test (ev_eqS (ev_var rfl) ev_str)) (sg_eq c 124)
    · exact (et_test (ev_ne (d := .lst (nmD B0 ++ [.int (x : Int)])) (e := .lst []) (ev_var rfl) (evn_lst (ds := []) ea_nil (by decide)).lst (.c 0 rfl) .v (by rw [← ca]; exact pl_nmD _ 60) rfl)).to (by cases nmD B0 <;> rfl)
    · refine (et_test (ev_eqI (ev_ixV (d := .int (x : Int)) (ev_var rfl) (ev_un ev_int ru_neg) (.ce 0 rfl) lastx) ev_int)).to ?_
      rw [Bool.eq_iff_iff, beq_iff_eq, decide_eq_true_eq]
      omega
  · have h : m = .space ∧ c = 124 ∧ x = 0 := by simpa using h
    have hp : m = .space ∧ c = 124 ∧ B0 ++ [x] ≠ [] ∧ (B0 ++ [x]).getLastD 0 = 0 := ⟨h.1, h.2.1, l3, by rw [l1]; exact h.2.2⟩
    rw [if_pos hp, l2] at hR
    refine q_seti (j := 0) (d := .int 1) (ix := (nmD B0).length) ev_int (ev_var rfl) (ev_un ev_int ru_neg) rfl ?_ ?_
    · have hz : (nmD B0 ++ [D.int (x : Int)]).length = (nmD B0).length + 1 := by rw [List.length_append]; rfl
      unfold ixN
      rw [hz, if_neg (by decide), if_pos (by omega)]
      congr 1
      omega
    · refine g_ret hR ev_str ⟨rfl, ?_⟩
      show [(p, Nd.lst ((nmD B0 ++ [D.int (x : Int)]).set (nmD B0).length (D.int 1)))] = [(p, Nd.lst (nmD (B0 ++ [1])))]
      rw [List.set_append_right _ _ (Nat.le_refl _), Nat.sub_self]
      unfold nmD
      rw [List.map_append]
      rfl
  · have hp : ¬ (m = .space ∧ c = 124 ∧ B0 ++ [x] ≠ [] ∧ (B0 ++ [x]).getLastD 0 = 0) := fun z => by
      have z2 := z.2.2.2
      rw [l1] at z2
      rw [decide_eq_true z.1, decide_eq_true z.2.1, decide_eq_true z2] at h
      cases h
    rw [if_neg hp] at hR
    exact g_ret hR (ev_callA (d := .str (itmM c (B0 ++ [x])).1.s) (ea2 (ev_var rfl) (ev_var rfl)) ⟨_, _, rfl, c, p, B0 ++ [x], rfl, rfl, by rw [ca], hl, rfl⟩) ⟨rfl, rfl⟩
end
/-- a place, or none -/
def plD : Option Nat → D
  | none => .non
  | some p => .int (p : Int)
def ct_law_place (K : PySem.W.Frag) : Ct := Ct1 fun a ka out => ∃ cs : List Nat, a = .val (.str (tx cs)) ∧ cs.length ≤ 1000 ∧ ka = [] ∧ out = Rt (plD (plR cs 0 .item 0 [])) []
section
variable {P : Program} {w : World} {K : PySem.W.Frag} {mg : Str → Option Value} {base : Heap}
theorem ok_law_place (T : Tx K mg w) (F_law_goes : Fn P w K mg base 8 (He.ga K "_law_goes") ["_law_mode", "_law_sign", "_law_count", "_law_bars"] (ct_law_goes K)) : Fn P w K mg base 10 (He.ga K "_law_place") ["_law_text"] (ct_law_place K) := by
  obtain ⟨fd, F⟩ := T.d_law_place
  refine fn_ok F sc_law_place (fun _ _ _ _ _ _ us hl => match us, hl with | [_], _ => rfl) ct1_len (fun cdv A outer s H E hr => ⟨_, (pss_cons (ps_set (i := 1) sc_law_place.nd rfl (by first | exact Or.inl rfl | exact Or.inr rfl) pe_str)
      (pss_cons (ps_set (i := 2) sc_law_place.nd rfl (by first | exact Or.inl rfl | exact Or.inr rfl) pe_int)
      (pss_cons (ps_set (i := 3) sc_law_place.nd rfl (by first | exact Or.inl rfl | exact Or.inr rfl) (pe_lst pa_nil))
      (pss_cons (ps_for (passes_of rfl) rfl (pi_enumS rfl T.n_enumerate (pa_cons (pv 0) pa_nil)) (pg_tup rfl (pgs_cons (pg_name (i := 4) sc_law_place.nd rfl (by first | exact Or.inl rfl | exact Or.inr rfl)) (pgs_cons (pg_name (i := 5) sc_law_place.nd rfl (by first | exact Or.inl rfl | exact Or.inr rfl)) pgs_nil))) (pss_cons (ps_set (i := 6) sc_law_place.nd rfl (by first | exact Or.inl rfl | exact Or.inr rfl) (pv 1))
      (pss_cons (ps_set (i := 1) sc_law_place.nd rfl (by first | exact Or.inl rfl | exact Or.inr rfl) (pe_call (F_law_goes.up (by decide)).ok hr rfl T.g_law_goes.1 T.g_law_goes.2 (F_law_goes.up (by decide)).bn .nil (pass_own rfl rfl rfl rfl) (pa_cons (pv 1) (pa_cons (pv 5) (pa_cons (pv 2) (pa_cons (pv 3) pa_nil))))))
      (pss_cons (ps_if (pt_cmpR (op_eqP (by have := (hr).units; exact this)) (pv 1) pe_str (nomark _))
      (pss_one (ps_ret (pv 4)))
      pss_nil)
      (pss_cons (ps_set (i := 2) sc_law_place.nd rfl (by first | exact Or.inl rfl | exact Or.inr rfl) (pe_op op_addU (pv 2) pe_int))
      (pss_one (ps_if (PW.pt (pw_or (pt_cmpR op_niU (pv 1) (pe_tup (pa_cons pe_str (pa_cons pe_str pa_nil))) (by with_unfolding_all rfl)) (pw_or1 (pt_cmpR (op_neP (by have := (hr).units; exact this)) (pv 6) (pv 1) (nomark _)))))
      (pss_one (ps_set (i := 2) sc_law_place.nd rfl (by first | exact Or.inl rfl | exact Or.inr rfl) pe_int))
      pss_nil)))))))
      (pss_cons (ps_if (PW.pt (pw_and (pt_cmpR op_inU (pv 1) (pe_tup (pa_cons pe_str (pa_cons pe_str pa_nil))) (by with_unfolding_all rfl)) (pw_and1 (pt_cmpR (op_eqP (by have := (hr).units; exact this)) (pv 3) (pe_lst pa_nil) (nomark _)))))
      (pss_one (ps_ret pe_non))
      pss_nil)
      (pss_one (ps_ret (pe_callB call_lenU rfl T.n_len (by decide +kernel) (pa_cons (pv 0) pa_nil))))))))), fun ws ka out B F0 Q hC hR hX => ?_⟩)
  obtain ⟨a, rfl, cs, rfl, hl, rfl, rfl⟩ := hC
  refine q_asg (w := .val (.str Md.item.s)) ev_str ?_
  refine q_asg (w := .val (.int ((0 : Nat) : Int))) ev_int ?_
  refine q_asgN (evn_lst (ds := nmD []) ea_nil (Nat.le_of_ble_eq_true rfl)) (fun p => ?_)
  refine q_forT (ei_enumS (cs := tx cs) (ev_var rfl)) (fun i ro ka => ∃ (m : Md) (n : Nat) (B : List Nat) (v4 v5 v6 : Option W), ro = [some (.val (.str (tx cs))), some (.val (.str m.s)), some (.val (.int (n : Int))), some (.val (.adr p)), v4, v5, v6] ∧ ka = [(p, .lst (nmD B))] ∧ B.length ≤ i ∧ (∀ x ∈ B, x ≤ 1) ∧ plR cs 0 .item 0 [] = plR (cs.drop i) i m n B) ⟨.item, 0, [], _, _, _, rfl, rfl, Nat.le_refl _, fun x h => (by cases h), rfl⟩ (fun i ro ka _ => trivial) (fun i w ro2 ka2 ta' hw ⟨m, n, B, v4, v5, v6, e1, e2, hB, hB1, hq⟩ => ?_) (fun ro2 ka2 ta' ⟨m, n, B, v4, v5, v6, e1, e2, hB, hB1, hq⟩ _ => ?_)
  · subst e1 e2
    have hi : i < cs.length := by
      have := (List.getElem?_eq_some_iff.mp hw).1
      rwa [List.length_map, List.length_range] at this
    obtain ⟨c, hc⟩ : ∃ c, cs[i]? = some c := ⟨_, List.getElem?_eq_getElem hi⟩
    have hw2 : w = .val (.tup [.int (i : Int), .str ⟨#[c]⟩]) := by
      rw [List.getElem?_map, List.getElem?_range (n := (tx cs).cps.toList.length) hi] at hw
      have hg : (tx cs).cps.toList.getD i 0 = c := by
        show cs.getD i 0 = c
        rw [List.getD_eq_getElem?_getD, hc]
        rfl
      rw [← hg]
      exact (Option.some.inj hw).symm
    subst hw2
    have hd : cs.drop i = c :: cs.drop (i + 1) := by
      obtain ⟨h1, h2⟩ := List.getElem?_eq_some_iff.mp hc
      rw [List.drop_eq_getElem_cons h1, h2]
    have un : plR (cs.drop i) i m n B = if (goM m c n B).1 = .wrong then some i else plR (cs.drop (i + 1)) (i + 1) (goM m c n B).1 (cntM m (goM m c n B).1 n) (goM m c n B).2 := by
      rw [hd]
      rfl
    rw [un] at hq
    obtain ⟨g1, g2⟩ := goM_ok (m := m) (c := c) (n := n) hB1
    generalize hgo : goM m c n B = go at *
    obtain ⟨m', B'⟩ := go
    have g2 : B'.length ≤ B.length + 1 := g2
    refine ⟨_, at_t2, ?_⟩
    refine q_asg (w := .val (.str m.s)) (ev_var rfl) ?_
    refine q_asg (w := .val (.str m'.s)) (ev_callA (d := .str m'.s) (ea_cons (ev_var rfl) (ea3 (ev_var rfl) (ev_var rfl) (ev_var rfl))) ⟨_, _, _, _, rfl, m, c, n, p, B, rfl, rfl, rfl, rfl, rfl, by omega, hB1, by rw [hgo]⟩) ?_
    refine q_when (b := decide (m' = .wrong)) (EvT.to (et_test (ev_eqS (ev_var rfl) ev_str)) (md_eq m' .wrong)) (fun h => ?_) (fun h => ?_)
    · rw [hq, if_pos (of_decide_eq_true h)] at hR
      exact Gp.less (k1 := []) (g_ret hR (ev_var rfl) ⟨rfl, rfl⟩) (List.nil_sublist _)
    rw [if_neg (of_decide_eq_false h)] at hq
    refine q_asg (w := .val (.int ((n + 1 : Nat) : Int))) (EvD.to (ev_addI (ev_var rfl) ev_int) rfl) ?_
    have mdn : ∀ {ro : Ro}, ro[1]? = some (some (.val (.str m'.s))) → EvT K (tTest (tOp (rNiU K) (tVar 1) (tTup (tCons (tC (.str "name")) (tCons (tC (.str "inname")) tNil))))) ro [(p, .lst (nmD B'))] (!decide (m' ∈ [Md.name, .inname])) [(p, .lst (nmD B'))] := fun h => EvT.to (et_test (ev_niL (ss := [Md.name, .inname].map Md.s) (ev_var h) (ev_tup (ds := stD ([Md.name, .inname].map Md.s)) (ea2 ev_str ev_str) (Nat.le_of_ble_eq_true rfl)) .vt)) (by rw [md_in])
    have key : cntM m m' n = if (m' ∈ [Md.name, .inname] ∧ m = m') then n + 1 else 1 := by
      unfold cntM
      simp
    refine g_if (b := !decide (m' ∈ [Md.name, .inname]) || !decide (m = m')) (et_or (mdn rfl) (fun _ => EvT.to (et_test (ev_neS (ev_var rfl) (ev_var rfl))) (congrArg (fun z => !z) (md_eq m m')))) (fun hb => ?_) (fun hb => ?_)
    · refine g_asg (w := .val (.int ((1 : Nat) : Int))) ev_int (g_jp ⟨m', 1, B', _, _, _, rfl, rfl, by omega, g1, ?_⟩)
      have hn : ¬ (m' ∈ [Md.name, .inname] ∧ m = m') := fun z => by
        rw [decide_eq_true z.1, decide_eq_true z.2] at hb
        cases hb
      rw [hq, key, if_neg hn]
    · refine g_next (g_jp ⟨m', n + 1, B', _, _, _, rfl, rfl, by omega, g1, ?_⟩)
      have hp : m' ∈ [Md.name, .inname] ∧ m = m' := by
        rw [Bool.or_eq_false_iff, Bool.not_eq_false', Bool.not_eq_false', decide_eq_true_eq, decide_eq_true_eq] at hb
        exact hb
      rw [hq, key, if_pos hp]
  · subst e1 e2
    have hlen : (List.map (fun i : Nat => W.val (.tup [.int (i : Int), .str ⟨#[(tx cs).cps.toList.getD i 0]⟩])) (List.range (tx cs).cps.toList.length)).length = cs.length := by rw [List.length_map, List.length_range]; rfl
    rw [hlen, List.drop_length] at hq
    have un : plR [] cs.length m n B = if (m = .name ∨ m = .after) ∧ B = [] then none else some cs.length := rfl
    rw [un] at hq
    refine q_when (k1 := [(p, .lst (nmD B))]) (b := decide (m ∈ [Md.name, .after]) && decide (B = [])) (et_and (EvT.to (et_test (ev_inL (ss := [Md.name, .after].map Md.s) (ev_var rfl) (ev_tup (ds := stD ([Md.name, .after].map Md.s)) (ea2 ev_str ev_str) (Nat.le_of_ble_eq_true rfl)) .vt)) (md_in m _)) (fun _ => EvT.to (et_test (ev_eq (d := .lst (nmD B)) (e := .lst []) (ev_var rfl) (evn_lst (ds := []) ea_nil (by decide)).lst (.c 0 rfl) .v (pl_nmD B 60) rfl)) (by cases B <;> rfl))) (fun h => ?_) (fun h => ?_)
    · have h : (m = .name ∨ m = .after) ∧ B = [] := by simpa using h
      rw [hq, if_pos h] at hR
      exact Gp.less (k1 := []) (g_ret hR ev_non ⟨rfl, rfl⟩) (List.nil_sublist _)
    · have h : ¬ ((m = .name ∨ m = .after) ∧ B = []) := fun z => by
        have : (decide (m ∈ [Md.name, .after]) && decide (B = [])) = true := by simpa using z
        rw [h] at this
        cases this
      rw [hq, if_neg h] at hR
      exact Gp.less (k1 := []) (g_ret hR ((ev_lenS (s := tx cs) (ev_var rfl) (by rw [tx_len]; omega)).to (by rw [tx_len]; rfl)) ⟨rfl, rfl⟩) (List.nil_sublist _)
end
/-- no more signs, blanks, opening brackets than before, but for n -/
structure SpB (n : Nat) (cs cs' : List Nat) : Prop where
  l : cs'.length ≤ cs.length + n
  c : ∀ x, cs'.count x ≤ cs.count x + n
theorem SpB.step {n at_ : Nat} {cs c1 rest : List Nat} {s : Nat} (h : SpB n cs c1) (hr : rest = s :: c1.drop at_ ∨ rest = c1.drop (at_ + 1) ∨ rest = s :: c1.drop (at_ + 1) ∨ rest = []) : SpB (n + 1) cs (c1.take at_ ++ rest) := by
  have cn : ∀ x, (c1.take at_).count x + (c1.drop at_).count x = c1.count x := fun x => by rw [← List.count_append, List.take_append_drop]
  have ln : (c1.take at_).length + (c1.drop at_).length = c1.length := by rw [← List.length_append, List.take_append_drop]
  have sub : (c1.drop (at_ + 1)).Sublist (c1.drop at_) := by
    rw [show c1.drop (at_ + 1) = (c1.drop at_).drop 1 by rw [List.drop_drop]]
    exact List.drop_sublist _ _
  have hl := h.l
  refine ⟨?_, fun x => ?_⟩
  · rw [List.length_append]
    have := sub.length_le
    rcases hr with rfl | rfl | rfl | rfl
    · rw [List.length_cons]; omega
    · omega
    · rw [List.length_cons]; omega
    · rw [List.length_nil]; omega
  · have hc := h.c x
    have := cn x
    have sc := sub.count_le x
    rw [List.count_append]
    have one : ∀ l : List Nat, (s :: l).count x ≤ l.count x + 1 := fun l => by rw [List.count_cons]; split <;> omega
    rcases hr with rfl | rfl | rfl | rfl
    · have := one (c1.drop at_); omega
    · omega
    · have := one (c1.drop (at_ + 1)); omega
    · rw [List.count_nil]; omega
def ct_law_spoiled (K : PySem.W.Frag) : Ct := Ct2 fun s b ka out => ∃ (a : Addr) (p : Pl) (n : Int) (cs : List Nat), s = .val (.adr a) ∧ b = .val (.str (tx cs)) ∧ ka = [(a, .lst (Pl.ds p))] ∧ p.Ok n ∧ 0 ≤ n ∧ n ≤ 900000 ∧ cs.length ≤ 900 ∧
  out = fun o k => ∃ (cs' : List Nat) (p' : Pl), o = .ret (.str (tx cs')) ∧ k = [(a, .lst (Pl.ds p'))] ∧ p'.Ok (n + 13) ∧ SpB 3 cs cs'
section
variable {P : Program} {w : World} {K : PySem.W.Frag} {mg : Str → Option Value} {base : Heap}
theorem ok_law_spoiled (T : Tx K mg w) (F_law_take : Fn P w K mg base 4 (He.ga K "_law_take") ["_law_pool_here", "_law_many"] (ct_law_take K)) : Fn P w K mg base 6 (He.ga K "_law_spoiled") ["_law_pool_here", "_law_text"] (ct_law_spoiled K) := by
  obtain ⟨fd, F⟩ := T.d_law_spoiled
  refine fn_ok F sc_law_spoiled (fun _ _ _ _ _ _ us hl => match us, hl with | [_, _], _ => rfl) ct2_len (fun cdv A outer s H E hr => ⟨_, (pss_cons (ps_set (i := 2) sc_law_spoiled.nd rfl (by first | exact Or.inl rfl | exact Or.inr rfl) pe_str)
      (pss_cons (ps_for (passes_of rfl) rfl (pi_range1 rfl T.n_range (pa_cons (pe_call (F_law_take.up (by decide)).ok hr rfl T.g_law_take.1 T.g_law_take.2 (F_law_take.up (by decide)).bn .nil (pass_own rfl rfl rfl rfl) (pa_cons (pv 0) (pa_cons pe_int pa_nil))) pa_nil)) (pg_name (i := 3) sc_law_spoiled.nd rfl (by first | exact Or.inl rfl | exact Or.inr rfl)) (pss_cons (ps_set (i := 4) sc_law_spoiled.nd rfl (by first | exact Or.inl rfl | exact Or.inr rfl) (pe_call (F_law_take.up (by decide)).ok hr rfl T.g_law_take.1 T.g_law_take.2 (F_law_take.up (by decide)).bn .nil (pass_own rfl rfl rfl rfl) (pa_cons (pv 0) (pa_cons (pe_op op_addU (pe_callB call_lenU rfl T.n_len (by decide +kernel) (pa_cons (pv 1) pa_nil)) pe_int) pa_nil))))
      (pss_cons (ps_set (i := 5) sc_law_spoiled.nd rfl (by first | exact Or.inl rfl | exact Or.inr rfl) (pe_call (F_law_take.up (by decide)).ok hr rfl T.g_law_take.1 T.g_law_take.2 (F_law_take.up (by decide)).bn .nil (pass_own rfl rfl rfl rfl) (pa_cons (pv 0) (pa_cons pe_int pa_nil))))
      (pss_cons (ps_set (i := 6) sc_law_spoiled.nd rfl (by first | exact Or.inl rfl | exact Or.inr rfl) (pe_ix ix_seq (pv 2) (pe_call (F_law_take.up (by decide)).ok hr rfl T.g_law_take.1 T.g_law_take.2 (F_law_take.up (by decide)).bn .nil (pass_own rfl rfl rfl rfl) (pa_cons (pv 0) (pa_cons (pe_callB call_lenU rfl T.n_len (by decide +kernel) (pa_cons (pv 2) pa_nil)) pa_nil))) fun _ _ => rfl))
      (pss_cons (ps_set (i := 7) sc_law_spoiled.nd rfl (by first | exact Or.inl rfl | exact Or.inr rfl) (pe_lst (pa_cons (pe_op op_addU (pv 6) (pe_slice sl_U (pv 1) (po_some (pv 4)) po_none)) (pa_cons (pe_slice sl_U (pv 1) (po_some (pe_op op_addU (pv 4) pe_int)) po_none) (pa_cons (pe_op op_addU (pv 6) (pe_slice sl_U (pv 1) (po_some (pe_op op_addU (pv 4) pe_int)) po_none)) (pa_cons pe_str pa_nil))))))
      (pss_one (ps_set (i := 1) sc_law_spoiled.nd rfl (by first | exact Or.inl rfl | exact Or.inr rfl) (pe_op op_addU (pe_slice sl_U (pv 1) po_none (po_some (pv 4))) (pe_ix ix_seq (pv 7) (pv 5) fun _ _ => rfl)))))))))
      (pss_one (ps_ret (pv 1))))), fun ws ka out B F0 Q hC hR hX => ?_⟩)
  obtain ⟨s, b, rfl, a, p, n, cs, rfl, rfl, rfl, hp, hn0, hn, hl, rfl⟩ := hC
  refine q_asg (w := .val (.str (tx [32, 97, 98, 48, 40, 41, 91, 93, 124, 42, 63, 94, 46, 65, 122]))) ev_str ?_
  have t4 := tk_lt p (m := 4) (by decide)
  have o4 := tk_ok hp (m := 4) (by decide)
  refine q_forn (ei_range1 (ea1 (ev_take (kr := []) (ev_var rfl) ev_int (hp.up (by omega)) (by decide) (by decide))) (by omega) (by omega)) (fun i ro ka => ∃ (c1 : List Nat) (p1 : Pl) (v3 v4 v5 v6 v7 : Option W), ro = [some (.val (.adr a)), some (.val (.str (tx c1))), some (.val (.str (tx [32, 97, 98, 48, 40, 41, 91, 93, 124, 42, 63, 94, 46, 65, 122]))), v3, v4, v5, v6, v7] ∧ ka = [(a, .lst (Pl.ds p1))] ∧ p1.Ok (n + 1 + 3 * (i : Nat)) ∧ SpB i cs c1) ⟨cs, _, _, _, _, _, _, rfl, rfl, o4.up (by omega), ⟨Nat.le_refl _, fun x => Nat.le_refl _⟩⟩ (fun _ _ _ _ => trivial) (fun i w ro2 ka2 ta' hw ⟨c1, p1, v3, v4, v5, v6, v7, e1, e2, hp1, hs⟩ => ?_) (fun ro2 ka2 ta' ⟨c1, p1, v3, v4, v5, v6, v7, e1, e2, hp1, hs⟩ _ => ?_)
  · subst e1 e2
    have hi : i < 3 := by
      have := (List.getElem?_eq_some_iff.mp hw).1
      rw [List.length_map, List.length_range] at this
      omega
    have hl1 := hs.l
    have hs2 : (tx c1).length ≤ 100000 := by rw [tx_len]; omega
    have ta := tk_lt p1 (m := ((c1.length + 1 : Nat) : Int)) (by omega)
    have oa := tk_ok hp1 (m := ((c1.length + 1 : Nat) : Int)) (by omega)
    obtain ⟨at_, hat, hat2⟩ : ∃ at_ : Nat, (tk p1 ((c1.length + 1 : Nat) : Int)).1 = (at_ : Int) ∧ at_ ≤ c1.length := ⟨(tk p1 ((c1.length + 1 : Nat) : Int)).1.toNat, by omega, by omega⟩
    refine q_asg (w := .val (.int (at_ : Int))) ((ev_take (kr := []) (m := ((c1.length + 1 : Nat) : Int)) (ev_var rfl) ((ev_addI (ev_lenS (s := tx c1) (ev_var rfl) hs2) ev_int).to (by rw [tx_len]; rfl)) (hp1.up (by omega)) (by omega) (by omega)).to (by rw [hat])) ?_
    generalize (tk p1 ((c1.length + 1 : Nat) : Int)).2 = p2 at *
    have tk_ := tk_lt p2 (m := 4) (by decide)
    have ok_ := tk_ok oa (m := 4) (by decide)
    obtain ⟨kd, hkd, hkd2⟩ : ∃ kd : Nat, (tk p2 4).1 = (kd : Int) ∧ kd < 4 := ⟨(tk p2 4).1.toNat, by omega, by omega⟩
    refine q_asg (w := .val (.int (kd : Int))) ((ev_take (kr := []) (ev_var rfl) ev_int (oa.up (by omega)) (by decide) (by decide)).to (by rw [hkd])) ?_
    generalize (tk p2 4).2 = p3 at *
    have ts := tk_lt p3 (m := 15) (by decide)
    have os := tk_ok ok_ (m := 15) (by decide)
    obtain ⟨sg, hsg, hsg2⟩ : ∃ sg : Nat, (tk p3 15).1 = (sg : Int) ∧ sg < 15 := ⟨(tk p3 15).1.toNat, by omega, by omega⟩
    obtain ⟨c, hc⟩ : ∃ c, ([32, 97, 98, 48, 40, 41, 91, 93, 124, 42, 63, 94, 46, 65, 122] : List Nat)[sg]? = some c := ⟨_, List.getElem?_eq_getElem (by show sg < 15; exact hsg2)⟩
    refine q_asg (w := .val (.str (tx [c]))) (ev_ixS (s := tx [32, 97, 98, 48, 40, 41, 91, 93, 124, 42, 63, 94, 46, 65, 122]) (i := (sg : Int)) (ev_var rfl) ((ev_take (kr := []) (m := 15) (ev_var rfl) ((ev_lenS (s := tx [32, 97, 98, 48, 40, 41, 91, 93, 124, 42, 63, 94, 46, 65, 122]) (ev_var rfl) (Nat.le_of_ble_eq_true rfl)).to rfl) (ok_.up (by omega)) (by decide) (by decide)).to (by rw [hsg])) (Nat.le_of_ble_eq_true rfl) (atI_nat (j := sg) hc)) ?_
    generalize (tk p3 15).2 = p4 at *
    have cutF : ∀ (j : Nat), j ≤ c1.length + 1 → cutS (tx c1) (some (j : Int)) none = tx (c1.drop j) := fun j hj => by
      rw [tx_cut]
      by_cases h : j ≤ c1.length
      · rw [cut_from (by omega) (by omega)]
        rfl
      · have ez : j = c1.length + 1 := by omega
        have : cutD c1 (some (j : Int)) none = c1.drop j := by
          rw [List.drop_eq_nil_of_le (by omega)]
          unfold cutD
          have hz : c1.length ≤ HT.sIx c1.length 0 (some (j : Int)) := by
            rw [HT.sIx_nat]
            omega
          rw [List.drop_eq_nil_of_le hz, List.take_nil]
        rw [this]
    have cutT : cutS (tx c1) none (some (at_ : Int)) = tx (c1.take at_) := by
      rw [tx_cut, cut_to' (by omega)]
      rfl
    have hd1 : (c1.drop at_).length ≤ c1.length := by rw [List.length_drop]; omega
    have hd2 : (c1.drop (at_ + 1)).length ≤ c1.length := by rw [List.length_drop]; omega
    obtain ⟨rest, hrest, hr4⟩ : ∃ rest : List Nat, [c :: c1.drop at_, c1.drop (at_ + 1), c :: c1.drop (at_ + 1), []][kd]? = some rest ∧ (rest = c :: c1.drop at_ ∨ rest = c1.drop (at_ + 1) ∨ rest = c :: c1.drop (at_ + 1) ∨ rest = []) := by
      rcases (by omega : kd = 0 ∨ kd = 1 ∨ kd = 2 ∨ kd = 3) with rfl | rfl | rfl | rfl
      · exact ⟨_, rfl, .inl rfl⟩
      · exact ⟨_, rfl, .inr (.inl rfl)⟩
      · exact ⟨_, rfl, .inr (.inr (.inl rfl))⟩
      · exact ⟨_, rfl, .inr (.inr (.inr rfl))⟩
    refine q_asg (w := .val (.lst (stD ([c :: c1.drop at_, c1.drop (at_ + 1), c :: c1.drop (at_ + 1), []].map tx)))) (evn_lst (ds := stD ([c :: c1.drop at_, c1.drop (at_ + 1), c :: c1.drop (at_ + 1), []].map tx)) (ea_cons (ev_addT (l := [c]) (m := c1.drop at_) (ev_var rfl) ((ev_slS (ev_var rfl) (eo_some (ev_var rfl)) eo_none hs2).to (by rw [cutF at_ (by omega)])) (by rw [List.length_singleton]; omega)) (ea3 ((ev_slS (ev_var rfl) (eo_some (EvD.to (ev_addI (ev_var rfl) ev_int) rfl)) eo_none hs2).to (congrArg (fun z => W.val (.str z)) (cutF (at_ + 1) (by omega)))) (ev_addT (l := [c]) (m := c1.drop (at_ + 1)) (ev_var rfl) ((ev_slS (ev_var rfl) (eo_some (EvD.to (ev_addI (ev_var rfl) ev_int) rfl)) eo_none hs2).to (congrArg (fun z => W.val (.str z)) (cutF (at_ + 1) (by omega)))) (by rw [List.length_singleton]; omega)) ev_str)) (Nat.le_of_ble_eq_true rfl)).lst ?_
    refine g_asg (w := .val (.str (tx (c1.take at_ ++ rest)))) (ev_addT (l := c1.take at_) (m := rest) ((ev_slS (ev_var rfl) eo_none (eo_some (ev_var rfl)) hs2).to (by rw [cutT])) (ev_ixV (d := .str (tx rest)) (ds := stD ([c :: c1.drop at_, c1.drop (at_ + 1), c :: c1.drop (at_ + 1), []].map tx)) (ev_var rfl) (ev_var rfl) .vl (atI_nat (j := kd) (stD_get (by rw [List.getElem?_map, hrest]; rfl)))) ?_) (g_jp ⟨_, _, _, _, _, _, _, rfl, rfl, os.up (by push_cast; omega), hs.step hr4⟩)
    have := (hs.step (at_ := at_) hr4).l
    rw [List.length_append] at this
    omega
  · subst e1 e2
    rw [List.length_map, List.length_range] at hp1 hs
    have hz : (tk p 4).1.toNat ≤ 3 := by omega
    exact g_ret hR (ev_var rfl) ⟨_, _, rfl, rfl, hp1.up (by omega), ⟨by have := hs.l; omega, fun x => by have := hs.c x; omega⟩⟩
end
theorem nds_nod : ∀ t : Tr, ndsT t = nodT t
  | .at _ _ => rfl
  | .join a b => by show ndsT a + ndsT b + 1 = nodT a + nodT b + 1; rw [nds_nod a, nds_nod b]
  | .either a b => by show ndsT a + ndsT b + 1 = nodT a + nodT b + 1; rw [nds_nod a, nds_nod b]
  | .rep a => by show ndsT a + 1 = nodT a + 1; rw [nds_nod a]
  | .opt a => by show ndsT a + 1 = nodT a + 1; rw [nds_nod a]
theorem nmd_of {n : Nat} (hn : n < 64) : ∀ {t : Tr}, nmsN n t → nmT t → nmdT t
  | .at k ns, h, q => ⟨q.1, Nat.lt_of_le_of_lt h hn, q.2⟩
  | .join a b, h, q => ⟨nmd_of hn h.1 q.1, nmd_of hn h.2 q.2⟩
  | .either a b, h, q => ⟨nmd_of hn h.1 q.1, nmd_of hn h.2 q.2⟩
  | .rep a, h, q => nmd_of hn (t := a) h q
  | .opt a, h, q => nmd_of hn (t := a) h q
/-- a text that is not too large to be read and told -/
structure TxB (cs : List Nat) : Prop where
  l : cs.length ≤ 1000
  n : 2 * cs.count 32 + cs.count 40 ≤ 129
  s : cs.count 32 ≤ 60
  p : cs.count 40 ≤ 50
  d : cs.count 32 + cs.count 40 ≤ 62
theorem TxB.tree {cs : List Nat} (h : TxB cs) {t : Tr} (e : rdPat 50 cs = some (.ok t)) : t.dep < 64 ∧ nmdT t ∧ ndsT t ≤ 130 := by
  obtain ⟨z1, z2, z3, z4⟩ := rdPat_sz e
  have := h.n
  have := h.s
  have := h.d
  exact ⟨by omega, nmd_of (n := cs.count 32 + 1) (by omega) z3 z4, by rw [nds_nod]; omega⟩
def toldD : Except Nat Tr → D
  | .ok t => .lst [.str (txO t)]
  | .error p => .int (p : Int)
def ct_law_told (K : PySem.W.Frag) : Ct := Ct1 fun a ka out => ∃ (cs : List Nat) (r : Except Nat Tr), a = .val (.str (tx cs)) ∧ TxB cs ∧ rdPat 50 cs = some r ∧ ka = [] ∧ out = Rt (toldD r) []
section
variable {P : Program} {w : World} {K : PySem.W.Frag} {mg : Str → Option Value} {base : Heap}
theorem ok_law_told (T : Tx K mg w) (F_Pattern_text : Fn P w K mg base 136 (pga K (He.ga K "Pattern") "text") ["self"] (ct_Pattern_text K)) (F_Pattern_read : Fn P w K mg base 166 (cga K (He.ga K "Pattern") "read") ["cls", "text"] (ct_Pattern_read K)) : Fn P w K mg base 168 (He.ga K "_law_told") ["_law_text"] (ct_law_told K) := by
  obtain ⟨fd, F⟩ := T.d_law_told
  refine fn_ok F sc_law_told (fun _ _ _ _ _ _ us hl => match us, hl with | [_], _ => rfl) ct1_len (fun cdv A outer s H E hr => ⟨_, (pss_one (ps_try_as (tb := fun W => (tRet (tLst (tCons (tProp (He.ga K "Pattern") (spC K (ct_Pattern_text K)) [] (fun _ _ _ => False) (tCM K (He.ga K "Pattern") (ct_Pattern_read K) (XW 2 W) (tCons (tVar 0) tNil))) tNil)))) (ts := fun a cls d => (tRet (tXf a cls d (He.ga K "BadText") "place" (tVar 1)))) rfl rfl sc_law_told.nd (i := 1) rfl rfl ⟨rfl, by decide, .inl T.g_BadText.1⟩ (takes_of rfl rfl rfl rfl)
      (fun W pn xe tk hp => (pss_one (ps_ret (pe_lst (pa_cons (pe_prop (ClX.pe_cmeth (pe_glob (v := .ref (He.ga K "Pattern")) rfl T.g_Pattern.1 rfl) T.cm_Pattern_read.1 T.cm_Pattern_read.2 (L2.FnOk.raw (F_Pattern_read.up (by decide)).ok (F_Pattern_read.up (by decide)).bn .nil) hr (pass_xw tk) (pa_cons (pv 0) pa_nil)) T.cl_Pattern T.pr_Pattern_text (F_Pattern_text.up (by decide)).ok hr (F_Pattern_text.up (by decide)).bn .nil passes_no rfl) pa_nil)))))
      (fun a oe cls d pn hz hf => (pss_one (ps_ret (pe_xf T.xc_BadText.xf T.xn_BadText_place hz hf (pv 1))))))), fun ws ka out B F0 Q hC hR hX => ?_⟩)
  obtain ⟨a, rfl, cs, r, rfl, hb, hr2, rfl, rfl⟩ := hC
  have hl := hb.l
  cases r with
  | error p => exact g_retX (C1 := He.ga K "BadText") (gs := [("place", .int (p : Int))]) (k2 := []) (evx_lst (evx_prop (evx_cm (evx_call (k2 := []) (kr := []) (k3 := []) (ea2 ev_ref (ev_var rfl)) ⟨_, _, rfl, cs, _, rfl, rfl, by omega, hr2, rfl, rfl⟩ rfl)))) T.ex_BadText_BadText fun a dx => g_ret hR ((ev_xf (j := 0) (ev_var rfl) rfl lk1).less (List.nil_sublist _)) ⟨rfl, rfl⟩
  | ok t =>
    obtain ⟨h1, h2, h3⟩ := hb.tree hr2
    exact g_ret hR (evn_lst (ds := [.str (txO t)]) (ea1 (ev_prop (k1 := []) [] (d := .str (txO t)) (ev_cm (ev_callP (d := PaD K (t.d false)) (ea2 ev_ref (ev_var rfl)) ⟨_, _, rfl, cs, _, rfl, rfl, by omega, hr2, rfl, rfl⟩)) .v (Cc := ct_Pattern_text K) ⟨_, rfl, t, rfl, h1, h2, h3, rfl, rfl⟩ fun _ _ z => z)) (Nat.le_of_ble_eq_true rfl)).lst ⟨rfl, rfl⟩
end
theorem stD_inj13 : ∀ {xs ys : List Str}, stD xs = stD ys → xs = ys
  | [], [], _ => rfl
  | [], _ :: _, h => by cases h
  | _ :: _, [], h => by cases h
  | x :: xs, y :: ys, h => by
    have h1 := List.cons.inj h
    rw [D.str.inj h1.1, stD_inj13 h1.2]
theorem join_one13 : ∀ (cs : List Nat), (Txt.join "" (cs.map fun c => (⟨#[c]⟩ : Str))) = tx cs
  | [] => rfl
  | [c] => rfl
  | c :: d :: r => by
    have ih := join_one13 (d :: r)
    rw [TL.join_eq] at ih ⊢
    show (⟨#[c]⟩ : Str) ++ "" ++ Str.join "" ((d :: r).map fun c => (⟨#[c]⟩ : Str)) = _
    rw [ih]
    apply str_ext
    rw [cpsApp, cpsApp]
    simp [tx]
    rfl
theorem sum_one13 {α : Type} : ∀ (xs : List α), (xs.map fun _ => 1).sum = xs.length
  | [] => rfl
  | x :: r => by rw [List.map_cons, List.sum_cons, sum_one13 r, List.length_cons, Nat.add_comm]
theorem nm_cut {x : Str} (h : isNm x = true) : isNm (tx (x.cps.toList.take 3)) = true := by
  obtain ⟨c, r, e, hc, hl, hr⟩ := nmL_cons h
  show nmL (x.cps.toList.take 3) = true
  rw [e, List.take_succ_cons]
  exact nmC_of hc (by rw [List.length_take]; omega) fun d hd => hr d (List.mem_of_mem_take hd)
/-- a text before it is spoiled -/
structure PreB (cs : List Nat) : Prop where
  l : cs.length ≤ 275
  b : (cs.count 32 ≤ 37 ∧ cs.count 40 ≤ 7) ∨ (cs.count 32 = 0 ∧ cs.count 40 ≤ 40)
theorem PreB.sp {cs c1 : List Nat} (h : PreB cs) (s : SpB 3 cs c1) : TxB c1 := by
  have h1 := h.l
  have h2 := s.l
  have h3 := s.c 32
  have h4 := s.c 40
  rcases h.b with ⟨a, b⟩ | ⟨a, b⟩ <;> exact ⟨by omega, by omega, by omega, by omega, by omega⟩
theorem small_tx {cs : List Nat} (h : cs.length ≤ 8) : TxB cs := by
  have h1 := List.count_le_length (a := 32) (l := cs)
  have h2 := List.count_le_length (a := 40) (l := cs)
  have h3 : cs.count 32 + cs.count 40 ≤ cs.length := by
    induction cs with
    | nil => exact Nat.le_refl _
    | cons c r ih =>
      have := ih (by rw [List.length_cons] at h; omega) List.count_le_length List.count_le_length
      rw [List.count_cons, List.count_cons, List.length_cons]
      by_cases e1 : c = 32
      · subst e1
        simp
        omega
      · by_cases e2 : c = 40
        · subst e2
          simp
          omega
        · simp [e1, e2]
          omega
  exact ⟨by omega, by omega, by omega, by omega, by omega⟩
theorem DrB.pre {d : Nat} {cs : List Nat} (hd : d ≤ 3) (h : DrB d cs) : PreB cs := by
  have p8 : 2 ^ d ≤ 8 := Nat.le_trans (Nat.pow_le_pow_right (by decide) hd) (by decide)
  have h1 := h.l; have h2 := h.s; have h3 := h.p
  exact ⟨by omega, .inl ⟨by omega, by omega⟩⟩
def ct_law (K : PySem.W.Frag) : Ct := Ct1 fun a ka out => ∃ ns, Scr K a ns ∧ ka = [] ∧ out = Rt (.bl true) []
section
variable {P : Program} {w : World} {K : PySem.W.Frag} {mg : Str → Option Value} {base : Heap}
theorem ok_law {fd : FuncData} (T : Tx K mg w) (F_law_cell : Fn P w K mg base 4 (He.ga K "_law_cell") ["_law_script", "_law_k"] (ct_law_cell K)) (F_law_pool : Fn P w K mg base 4 (He.ga K "_law_pool") ["_law_cell_here"] (ct_law_pool K)) (F_law_take : Fn P w K mg base 4 (He.ga K "_law_take") ["_law_pool_here", "_law_many"] (ct_law_take K)) (F_law_names : Fn P w K mg base 6 (He.ga K "_law_names") ["_law_pool_here", "_law_many"] (ct_law_names K)) (F_law_drawn : Fn P w K mg base 14 (He.ga K "_law_drawn") ["_law_pool_here", "_law_names_here", "_law_depth"] (ct_law_drawn 4 K)) (F_law_place : Fn P w K mg base 10 (He.ga K "_law_place") ["_law_text"] (ct_law_place K)) (F_law_spoiled : Fn P w K mg base 6 (He.ga K "_law_spoiled") ["_law_pool_here", "_law_text"] (ct_law_spoiled K)) (F_law_told : Fn P w K mg base 168 (He.ga K "_law_told") ["_law_text"] (ct_law_told K)) (F : FunD K "law" "law" (defArgs s_law) (defBody s_law) (defScope s_law) [] [] (He.ga K "law") fd) : FnOk P w K mg base (L2.CX P w) 170 (He.ga K "law") fd ["_law_script"] (spC K (ct_law K)) := by
  refine fn_okF F sc_law (fun _ _ _ _ _ _ us hl => match us, hl with | [_], _ => rfl) ct1_len (fun cdv A outer s H E hr => ⟨_, (pss_cons (ps_for (passes_of rfl) rfl (pi_range1 rfl T.n_range (pa_cons pe_int pa_nil)) (pg_name (i := 1) sc_law.nd rfl (by first | exact Or.inl rfl | exact Or.inr rfl)) (pss_cons (ps_set (i := 2) sc_law.nd rfl (by first | exact Or.inl rfl | exact Or.inr rfl) (pe_call (F_law_pool.up (by decide)).ok hr rfl T.g_law_pool.1 T.g_law_pool.2 (F_law_pool.up (by decide)).bn .nil (pass_own rfl rfl rfl rfl) (pa_cons (pe_op op_addU (pe_call (F_law_cell.up (by decide)).ok hr rfl T.g_law_cell.1 T.g_law_cell.2 (F_law_cell.up (by decide)).bn .nil (pass_own rfl rfl rfl rfl) (pa_cons (pv 0) (pa_cons (pv 1) pa_nil))) (pv 1)) pa_nil)))
      (pss_cons (ps_set (i := 3) sc_law.nd rfl (by first | exact Or.inl rfl | exact Or.inr rfl) (pe_call (F_law_names.up (by decide)).ok hr rfl T.g_law_names.1 T.g_law_names.2 (F_law_names.up (by decide)).bn .nil (pass_own rfl rfl rfl rfl) (pa_cons (pv 2) (pa_cons pe_int pa_nil))))
      (pss_cons (ps_if (pt_cmpR (op_eqP (by have := (hr).units; exact this)) (pe_op op_mod (pv 1) pe_int) pe_int (nomark _))
      (pss_one (ps_setLc (i := 3) (te := (tSl (rSlU K) (tVar 4) tNoPart (tPart (tC (.int 3))))) (tt := tYes) (own := [("_law_name", 4)]) rfl sc_law.nd rfl rfl rfl (pi_seq (pv 3)) (blk_ok ["_law_script", "_law_k", "_law_pool_here", "_law_names_here", "_law_name", "_law_text", "_law_deep", "_law_turn", "_law_due", "_law_told_here"] (defScope s_law) rfl rfl (by decide +kernel)) (fun _ _ _ _ _ => (pg_name (i := 4) sc_law.nd rfl (by first | exact Or.inl rfl | exact Or.inr rfl))) (fun _ _ _ _ _ => pts_nil) (fun _ _ _ _ _ => (pe_slice sl_U (pv 4) po_none (po_some pe_int)))))
      pss_nil)
      (pss_cons (ps_set (i := 5) sc_law.nd rfl (by first | exact Or.inl rfl | exact Or.inr rfl) (pe_call (F_law_drawn.up (by decide)).ok hr rfl T.g_law_drawn.1 T.g_law_drawn.2 (F_law_drawn.up (by decide)).bn .nil (pass_own rfl rfl rfl rfl) (pa_cons (pv 2) (pa_cons (pv 3) (pa_cons (pe_ix ix_seq (pe_lst (pa_cons pe_int (pa_cons pe_int pa_nil))) (pe_op op_mod (pv 1) pe_int) fun _ _ => rfl) pa_nil)))))
      (pss_cons (ps_if (pt_cmpR (op_eqP (by have := (hr).units; exact this)) (pv 1) pe_int (nomark _))
      (pss_cons (ps_set (i := 6) sc_law.nd rfl (by first | exact Or.inl rfl | exact Or.inr rfl) (pe_op op_addU pe_int (pe_call (F_law_take.up (by decide)).ok hr rfl T.g_law_take.1 T.g_law_take.2 (F_law_take.up (by decide)).bn .nil (pass_own rfl rfl rfl rfl) (pa_cons (pv 2) (pa_cons pe_int pa_nil)))))
      (pss_one (ps_set (i := 5) sc_law.nd rfl (by first | exact Or.inl rfl | exact Or.inr rfl) (pe_op op_addU (pe_op op_addU (pe_op op_mulS pe_str (pv 6)) (pe_ix ix_seq (pv 3) pe_int fun _ _ => rfl)) (pe_op op_mulS pe_str (pv 6))))))
      pss_nil)
      (pss_cons (ps_set (i := 5) sc_law.nd rfl (by first | exact Or.inl rfl | exact Or.inr rfl) (pe_call (F_law_spoiled.up (by decide)).ok hr rfl T.g_law_spoiled.1 T.g_law_spoiled.2 (F_law_spoiled.up (by decide)).bn .nil (pass_own rfl rfl rfl rfl) (pa_cons (pv 2) (pa_cons (pv 5) pa_nil))))
      (pss_cons (ps_if (pt_cmpR (op_eqP (by have := (hr).units; exact this)) (pe_call (F_law_take.up (by decide)).ok hr rfl T.g_law_take.1 T.g_law_take.2 (F_law_take.up (by decide)).bn .nil (pass_own rfl rfl rfl rfl) (pa_cons (pv 2) (pa_cons pe_int pa_nil))) pe_int (nomark _))
      (pss_one (ps_set (i := 5) sc_law.nd rfl (by first | exact Or.inl rfl | exact Or.inr rfl) (pe_join pe_str (pe_lc (te := (tOp (rIx K) (tC (.str " ab()[]|*?^.")) (tCall (spC K (ct_law_take K)) [] (fun _ _ _ => False) (tCons (tVar 2) (tCons (tC (.int 12)) tNil))))) (tt := tYes) (own := [("_law_turn", 7)]) rfl sc_law.nd (pi_range1 rfl T.n_range (pa_cons (pe_call (F_law_take.up (by decide)).ok hr rfl T.g_law_take.1 T.g_law_take.2 (F_law_take.up (by decide)).bn .nil (pass_own rfl rfl rfl rfl) (pa_cons (pv 2) (pa_cons pe_int pa_nil))) pa_nil)) (blk_ok ["_law_script", "_law_k", "_law_pool_here", "_law_names_here", "_law_name", "_law_text", "_law_deep", "_law_turn", "_law_due", "_law_told_here"] (defScope s_law) rfl rfl (by decide +kernel)) (fun _ _ _ _ _ => (pg_name (i := 7) sc_law.nd rfl (by first | exact Or.inl rfl | exact Or.inr rfl))) (fun _ _ _ _ _ => pts_nil) (fun _ _ _ _ _ => (pe_ix ix_seq pe_str (pe_call (F_law_take.up (by decide)).ok hr rfl T.g_law_take.1 T.g_law_take.2 (F_law_take.up (by decide)).bn .nil passes_no (pa_cons (pv 2) (pa_cons pe_int pa_nil))) fun _ _ => rfl))))))
      pss_nil)
      (pss_cons (ps_set (i := 8) sc_law.nd rfl (by first | exact Or.inl rfl | exact Or.inr rfl) (pe_call (F_law_place.up (by decide)).ok hr rfl T.g_law_place.1 T.g_law_place.2 (F_law_place.up (by decide)).bn .nil (pass_own rfl rfl rfl rfl) (pa_cons (pv 5) pa_nil)))
      (pss_cons (ps_set (i := 9) sc_law.nd rfl (by first | exact Or.inl rfl | exact Or.inr rfl) (pe_call (F_law_told.up (by decide)).ok hr rfl T.g_law_told.1 T.g_law_told.2 (F_law_told.up (by decide)).bn .nil (pass_own rfl rfl rfl rfl) (pa_cons (pv 5) pa_nil)))
      (pss_one (ps_if (pt_cmpR op_isN1 (pv 8) pe_non (nomark _))
      (pss_one (ps_if (PW.pt (pw_or (pt_not (pt_val (pe_callB call_isi rfl T.n_isinstance (by decide +kernel) (pa_cons (pv 9) (pa_cons (pe_bltn (v := .ty "list") rfl T.n_list (by decide +kernel) rfl) pa_nil))))) (pw_or1 (pt_cmpR (op_neP (by have := (hr).units; exact this)) (pe_call (F_law_told.up (by decide)).ok hr rfl T.g_law_told.1 T.g_law_told.2 (F_law_told.up (by decide)).bn .nil (pass_own rfl rfl rfl rfl) (pa_cons (pe_ix ix_seq (pv 9) pe_int fun _ _ => rfl) pa_nil)) (pv 9) (nomark _)))))
      (pss_one (ps_ret pe_bl))
      pss_nil))
      (pss_one (ps_if (pt_cmpR (op_neP (by have := (hr).units; exact this)) (pv 9) (pv 8) (nomark _))
      (pss_one (ps_ret pe_bl))
      pss_nil))))))))))))))
      (pss_one (ps_ret pe_bl))), fun ws ka out B F0 Q hC hR hX => ?_⟩)
  obtain ⟨s0, rfl, zs, hs0, rfl, rfl⟩ := hC
  refine q_forn (ei_range1 (ea1 ev_int) (by decide) (by decide)) (fun i ro ka => ∃ (v1 v2 v3 v4 v5 v6 v7 v8 v9 : Option W), ro = [some s0, v1, v2, v3, v4, v5, v6, v7, v8, v9] ∧ ka = []) ⟨_, _, _, _, _, _, _, _, _, rfl, rfl⟩ (fun i ro ka _ => trivial) (fun i w' ro2 ka2 ta' hw ⟨v1, v2, v3, v4, v5, v6, v7, v8, v9, e1, e2⟩ => ?_) (fun ro2 ka2 ta' ⟨v1, v2, v3, v4, v5, v6, v7, v8, v9, e1, e2⟩ _ => ?_)
  rotate_left
  · subst e1 e2
    exact g_ret hR ev_bl ⟨rfl, rfl⟩
  subst e1 e2
  have hi : i < 7 := by
    have := (List.getElem?_eq_some_iff.mp hw).1
    rwa [List.length_map, List.length_range] at this
  have hw2 : w' = .val (.int (i : Int)) := by
    rw [List.getElem?_map, List.getElem?_range (n := Int.toNat 7) hi] at hw
    cases hw
    rfl
  subst hw2
  refine q_asgN (evn_callP (ea1 (ev_addI (ev_callP (ea2 (ev_var rfl) (ev_var rfl)) ⟨_, _, rfl, zs, i, hs0, rfl, rfl, rfl⟩) (ev_var rfl))) ⟨_, rfl, _, rfl, rfl, rfl⟩) (fun a => ?_)
  generalize zs.getD i 0 + (i : Int) = z2
  have hpz := plOf_ok z2
  generalize plOf z2 = pz at *
  refine q_call (kr := []) (k1 := [(a, .lst pz.ds)]) (ea2 (ev_var rfl) ev_int) ⟨_, _, rfl, a, pz, 0, 4, rfl, rfl, rfl, hpz, by decide, by decide, by decide, by decide, rfl⟩ (fun o k ⟨ss, p', h, _⟩ => ⟨_, h⟩) ?_
  rintro _ _ ⟨ns, p1, e, rfl, hp1, hln, hnm, -⟩
  cases e
  have hln : ns.length = 4 := hln
  have mods : ∀ {ro : Ro} {k : Cells}, ro[1]? = some (some (.val (.int (i : Int)))) → EvD K (tOp rModI (tVar 1) (tC (.int 2))) ro k (.val (.int ((i % 2 : Nat) : Int))) k := fun h => (ev_modI (ev_var h) ev_int (by decide)).to (by rw [Int.natCast_emod]; rfl)
  refine q_whenI (b := decide (i % 2 = 0)) (fun ro ka => ∃ (ls : List Str), ro = [some s0, some (.val (.int (i : Int))), some (.val (.adr a)), some (.val (.lst (stD ls))), v4, v5, v6, v7, v8, v9] ∧ ka = [(a, .lst p1.ds)] ∧ ls.length = 4 ∧ ∀ x ∈ ls, isNm x = true) (EvT.to (et_test (ev_eqI (mods rfl) ev_int)) (by rw [Bool.eq_iff_iff, beq_iff_eq, decide_eq_true_eq]; omega)) (fun hb nx k => ?_) (fun hb => ⟨ns, rfl, rfl, hln, hnm⟩) (fun ro2 ka2 ⟨ls, e1, e2, lsl, lsn⟩ => ?_)
  · have cut3 : ∀ x : Str, cutS x none (some 3) = tx (x.cps.toList.take 3) := fun x => by
      show cutS (tx x.cps.toList) none (some 3) = _
      rw [tx_cut, cut_to' (by decide)]
      rfl
    refine g_asg (w := .val (.lst (stD (ns.map fun x => tx (x.cps.toList.take 3))))) ((evn_map (xs := ns) (g := fun s => W.val (.str s)) (f := fun x => D.str (tx (x.cps.toList.take 3))) (ei_strs (ev_var rfl)) (by decide) (by omega) ⟨trivial, fun _ => trivial⟩ (fun x hx => (ev_slS (s := x) (ev_var rfl) eo_none (eo_some ev_int) (by have := isNm_len (hnm x hx); omega)).to (by rw [cut3]))).lst.to (by unfold stD; rw [List.map_map]; rfl)) (k _ _ ⟨_, rfl, rfl, by rw [List.length_map]; exact hln, fun x hx => ?_⟩)
    obtain ⟨y, hy, rfl⟩ := List.mem_map.mp hx
    exact nm_cut (hnm y hy)
  subst e1 e2
  have lse : ls ≠ [] := fun z => by rw [z] at lsl; cases lsl
  obtain ⟨dd, hdd, hd3⟩ : ∃ dd : Nat, ([D.int 3, D.int 2] : List D)[i % 2]? = some (.int (dd : Int)) ∧ dd ≤ 3 := by
    rcases (by omega : i % 2 = 0 ∨ i % 2 = 1) with h | h <;> rw [h]
    · exact ⟨3, rfl, by decide⟩
    · exact ⟨2, rfl, by decide⟩
  have p8 : 2 ^ dd ≤ 8 := Nat.le_trans (Nat.pow_le_pow_right (by decide) hd3) (by decide)
  refine q_call (kr := []) (k1 := [(a, .lst p1.ds)]) (ea3 (ev_var rfl) (ev_var rfl) (ev_ixV (d := .int (dd : Int)) (ds := [.int 3, .int 2]) (evn_lst (ds := [.int 3, .int 2]) (ea2 ev_int ev_int) (Nat.le_of_ble_eq_true rfl)).lst (mods rfl) .vl (atI_nat (j := i % 2) hdd))) ⟨_, _, _, rfl, a, p1, 30, ls, dd, rfl, rfl, rfl, rfl, hp1, by decide, by omega, by omega, hd3, lse, by omega, lsn, rfl⟩ (fun o k ⟨ss, p', h, _⟩ => ⟨_, h⟩) ?_
  rintro _ _ ⟨c0, p2, e, rfl, hp2, hdr⟩
  cases e
  have hp2 : p2.Ok 200 := hp2.up (by omega)
  have pre0 := hdr.pre hd3
  refine q_whenI (b := decide (i = 6)) (fun ro ka => ∃ (c1 : List Nat) (p3 : Pl) (v6 : Option W), ro = [some s0, some (.val (.int (i : Int))), some (.val (.adr a)), some (.val (.lst (stD ls))), v4, some (.val (.str (tx c1))), v6, v7, v8, v9] ∧ ka = [(a, .lst p3.ds)] ∧ p3.Ok 300 ∧ PreB c1) (EvT.to (et_test (ev_eqI (ev_var rfl) ev_int)) (by rw [Bool.eq_iff_iff, beq_iff_eq, decide_eq_true_eq]; omega)) (fun hb nx k => ?_) (fun hb => ⟨c0, p2, _, rfl, rfl, hp2.up (by decide), pre0⟩) (fun ro2 ka2 ⟨c1, p3, u6, e1, e2, hp3, pre⟩ => ?_)
  · have t4 := tk_lt p2 (m := 40) (by decide)
    have o4 := tk_ok hp2 (m := 40) (by decide)
    obtain ⟨dp, hdp, hdp2, hdp1⟩ : ∃ dp : Nat, 1 + (tk p2 40).1 = (dp : Int) ∧ dp ≤ 40 ∧ 1 ≤ dp := ⟨(1 + (tk p2 40).1).toNat, by omega, by omega, by omega⟩
    refine q_asg (w := .val (.int (dp : Int))) ((ev_addI ev_int (ev_take (kr := []) (ev_var rfl) ev_int (hp2.up (by decide)) (by decide) (by decide))).to (by rw [hdp])) ?_
    obtain ⟨l0, lr, rfl⟩ : ∃ x t, ls = x :: t := by
      cases ls with
      | nil => exact absurd rfl lse
      | cons x t => exact ⟨x, t, rfl⟩
    have nm0 := lsn l0 List.mem_cons_self
    have gl0 : l0.cps.toList.length ≤ 8 := by rw [← str_len]; exact isNm_len nm0
    have n1 := nm_cnt nm0 32 (by decide)
    have n2 := nm_cnt nm0 40 (by decide)
    have r1 : (List.replicate dp ([40] : List Nat)).flatten = List.replicate dp 40 := by
      clear hdp hdp1 hdp2
      induction dp with
      | zero => rfl
      | succ d ih => simp [List.replicate_succ, ih]
    have r2 : ∀ x : Nat, (x = 32 ∨ x = 40) → (List.replicate dp ([41, 42] : List Nat)).flatten.count x = 0 := fun x hx => by
      refine List.count_eq_zero.mpr fun z => ?_
      obtain ⟨l, hl, hm⟩ := List.mem_flatten.mp z
      rw [(List.mem_replicate.mp hl).2] at hm
      rcases hx with rfl | rfl <;> simp at hm
    have r3 : (List.replicate dp ([41, 42] : List Nat)).flatten.length = 2 * dp := by
      clear r1 r2 hdp hdp1 hdp2
      induction dp with
      | zero => rfl
      | succ d ih =>
        rw [List.replicate_succ, List.flatten_cons, List.length_append, ih]
        show 2 + 2 * d = 2 * (d + 1)
        omega
    refine g_asg (w := .val (.str (tx ((List.replicate dp 40 ++ l0.cps.toList) ++ (List.replicate dp ([41, 42] : List Nat)).flatten)))) (ev_addT (l := List.replicate dp 40 ++ l0.cps.toList) (m := (List.replicate dp ([41, 42] : List Nat)).flatten) (ev_addT (l := List.replicate dp 40) (m := l0.cps.toList) ((ev_mulS (s := tx [40]) (n := dp) ev_str (ev_var rfl) hdp1 (by omega) (Nat.le_of_ble_eq_true rfl)).to (by show W.val (.str (tx (List.replicate dp ([40] : List Nat)).flatten)) = _; rw [r1])) (ev_ixV (d := .str l0) (ev_var rfl) ev_int .vl at0) (by rw [List.length_replicate]; omega)) (ev_mulS (s := tx [41, 42]) (n := dp) ev_str (ev_var rfl) hdp1 (by omega) (Nat.le_of_ble_eq_true rfl)) (by rw [List.length_append, List.length_replicate, r3]; omega)) (k _ _ ⟨_, _, _, rfl, rfl, o4.up (by decide), ?_, .inr ⟨?_, ?_⟩⟩)
    · rw [List.length_append, List.length_append, List.length_replicate, r3]; omega
    · rw [List.count_append, List.count_append, n1, r2 32 (.inl rfl), List.count_replicate]; rfl
    · rw [List.count_append, List.count_append, n2, r2 40 (.inr rfl), List.count_replicate]; show dp + 0 + 0 ≤ 40; omega
  subst e1 e2
  clear hp2 pre0 hdr hp1
  refine q_call (kr := []) (k1 := [(a, .lst p3.ds)]) (ea2 (ev_var rfl) (ev_var rfl)) ⟨_, _, rfl, a, p3, 300, c1, rfl, rfl, rfl, hp3, by decide, by decide, by have := pre.l; omega, rfl⟩ (fun o k ⟨ss, p', h, _⟩ => ⟨_, h⟩) ?_
  rintro _ _ ⟨c2, p4, e, rfl, hp4, sp⟩
  cases e
  have tb2 := pre.sp sp
  clear sp pre hp3
  refine DL.q_meet (fun ro ka => ∃ (c3 : List Nat) (p5 : Pl) (v7 : Option W), ro = [some s0, some (.val (.int (i : Int))), some (.val (.adr a)), some (.val (.lst (stD ls))), v4, some (.val (.str (tx c3))), u6, v7, v8, v9] ∧ ka = [(a, .lst p5.ds)] ∧ TxB c3) (fun nx k => ?text) (fun ro2 ka2 ⟨c3, p5, u7, e1, e2, tb⟩ => ?_)
  case text =>
    have t8 := tk_lt p4 (m := 8) (by decide)
    have hp8 := tk_ok hp4 (m := 8) (by decide)
    refine g_if (et_test (ev_eqI (ev_take (kr := []) (ev_var rfl) ev_int (hp4.up (by decide)) (by decide) (by decide)) ev_int)) (fun _ => ?_) (fun _ => g_next (k _ _ ⟨c2, _, _, rfl, rfl, tb2⟩))
    generalize (tk p4 8).2 = p6 at *
    have t9 := tk_lt p6 (m := 9) (by decide)
    have hp9 := tk_ok hp8 (m := 9) (by decide)
    refine g_asgR (evr_joinR ev_str (EvNR.lstR (evr_lc (ei_range1 (ea1 (ev_take (kr := []) (ev_var rfl) ev_int (hp8.up (by decide)) (by decide) (by decide))) (by omega) (by omega)) (by decide) (by rw [List.length_map, List.length_range]; omega) (fun j acc k => ∃ cs p', acc = stD (cs.map fun c : Nat => (⟨#[c]⟩ : Str)) ∧ k = [(a, .lst (Pl.ds p'))] ∧ p'.Ok (400 + j) ∧ cs.length = j) ⟨[], _, rfl, rfl, hp9.up (by decide), rfl⟩ (fun j acc k _ => ⟨trivial, fun _ => trivial⟩) (fun j w acc k hw ⟨cs, p', e1, e2, hp', hl⟩ => ?step)) (fun n k ⟨acc, e, _⟩ => ⟨acc, e⟩)) (fun w k ⟨ds, ⟨acc, e0, cs, p', e1, e2, hp', hl⟩, e3⟩ => ⟨cs.map fun c : Nat => (⟨#[c]⟩ : Str), ?lst, ?sz⟩)) (fun w kk ⟨ss, ⟨ds, ⟨acc, e0, cs, p', e1, e2, hp', hl⟩, e3⟩, e4⟩ => ?use)
    case step =>
      subst e1 e2
      have hj : j < (tk p6 9).1.toNat := by
        have := (List.getElem?_eq_some_iff.mp hw).1
        rwa [List.length_map, List.length_range] at this
      have ts := tk_lt p' (m := 12) (by decide)
      obtain ⟨sg, hsg, hsg2⟩ : ∃ sg : Nat, (tk p' 12).1 = (sg : Int) ∧ sg < 12 := ⟨(tk p' 12).1.toNat, by omega, by omega⟩
      obtain ⟨c, hc⟩ : ∃ c, ([32, 97, 98, 40, 41, 91, 93, 124, 42, 63, 94, 46] : List Nat)[sg]? = some c := ⟨_, List.getElem?_eq_getElem (by show sg < 12; exact hsg2)⟩
      refine .inr ⟨_, _, .str ⟨#[c]⟩, et_yes, ev_ixS (s := tx [32, 97, 98, 40, 41, 91, 93, 124, 42, 63, 94, 46]) (i := (sg : Int)) ev_str ((ev_take (kr := []) (ev_var rfl) ev_int (hp'.up (by omega)) (by decide) (by decide)).to (by rw [hsg])) (Nat.le_of_ble_eq_true rfl) (atI_nat (j := sg) hc), cs ++ [c], _, ?_, rfl, (tk_ok hp' (by decide)).up (by push_cast; omega), by rw [List.length_append, hl]; rfl⟩
      rw [List.map_append, ← stD_app]
      rfl
    case lst =>
      cases e0
      rw [e3, e1]
    case sz =>
      rw [List.length_map, List.length_range] at hl
      rw [List.map_map, List.length_map]
      refine Nat.le_trans (Nat.add_le_add (Nat.le_of_eq (sum_one13 cs)) (Nat.le_refl _)) ?_
      show cs.length + cs.length * 0 ≤ 100000
      omega
    case use =>
      cases e0
      cases e3
      have es : ss = cs.map fun c : Nat => (⟨#[c]⟩ : Str) := stD_inj13 e1
      subst es e2 e4
      rw [List.length_map, List.length_range] at hl
      rw [join_one13]
      exact k _ _ ⟨cs, p', _, rfl, rfl, small_tx (by omega)⟩
  subst e1 e2
  obtain ⟨r, hr⟩ := rdPat_some (d := 50) tb.p
  have sc := rd_scan hr
  refine q_asg (w := .val (plD (plR c3 0 .item 0 []))) (ev_callP (ea1 (ev_var rfl)) ⟨_, rfl, c3, rfl, tb.l, rfl, rfl⟩) ?_
  refine q_asg (w := .val (toldD r)) (ev_callP (ea1 (ev_var rfl)) ⟨_, rfl, c3, r, rfl, tb, hr, rfl, rfl⟩) ?_
  rw [sc]
  cases r with
  | error p =>
    refine g_if (et_test (ev_isN (d := .int (p : Int)) (ev_var rfl))) (fun h => by cases h) (fun _ => ?_)
    refine g_if ((et_test (ev_neI (i := (p : Int)) (j := (p : Int)) (ev_var rfl) (ev_var rfl))).to (b := false) (by rw [Bool.not_eq_false', beq_iff_eq])) (fun h => by cases h) (fun _ => ?_)
    exact (g_jp (ka := []) ⟨_, _, _, _, _, _, _, _, _, rfl, rfl⟩).less (List.nil_sublist _)
  | ok t =>
    have nm := (rdPat_sz hr).2.2.2
    obtain ⟨b1, b2⟩ := rdPat_tk hr
    obtain ⟨z1, z2, z3⟩ := txC_sz (m := false) nm
    have tb2 : TxB (txC false t) := ⟨by have := tb.s; have := tb.p; have := tb.d; omega, by have := tb.n; omega, by have := tb.s; omega, by have := tb.p; omega, by have := tb.d; omega⟩
    have gd : grT t ≤ 50 := by have := grT_pa t; have := tb.p; omega
    have rd2 := rd_text (m := false) nm gd
    have same : txO (lnT false t none) = txO t := by rw [txO_tx, txO_tx, txC_ln]; rfl
    refine g_if (et_test (ev_isN (d := .non) (ev_var rfl))) (fun _ => ?_) (fun h => by cases h)
    refine g_if (b := false) (et_or0 ((et_not (et_test (ev_isi (T := "list") (ev_var rfl) (.lst .vl) rfl))).to rfl) ((et_test (ev_ne (d := .lst [.str (txO t)]) (e := .lst [.str (txO t)]) (ev_callP (d := .lst [.str (txO t)]) (ea1 (ev_ixV (d := .str (txO t)) (ev_var rfl) ev_int .vl at0)) ⟨_, rfl, txC false t, .ok (lnT false t none), by rw [txO_tx], tb2, rd2, rfl, by rw [← same]; rfl⟩) (ev_var rfl) .v .v rfl rfl)).to (by rw [Bool.not_eq_false']; exact eqL_stD [txO t] [txO t] |>.trans (by simp)))) (fun h => by cases h) (fun _ => ?_)
    exact (g_jp (ka := []) ⟨_, _, _, _, _, _, _, _, _, rfl, rfl⟩).less (List.nil_sublist _)
end
theorem tx_of {K : PySem.W.Frag} {mg : Str → Option Value} {h : Heap} {w : World} (X : K.In h) (G : h.Ns mainGlobals mg) (c : SaysY exs dfs K) (tb : tbsOf tbs K = tbsDue tbs w) : Tx K mg w where
  n_tuple := He.free_ok X G (c.fact 0 (f := fFree "tuple"))
  n_sorted := He.free_ok X G (c.fact 1 (f := fFree "sorted"))
  n_str := He.free_ok X G (c.fact 2 (f := fFree "str"))
  n_len := He.free_ok X G (c.fact 3 (f := fFree "len"))
  g_atom_text := ⟨He.glo_ok X G (He.ba (c.fact 4 (f := fGlo "atom_text"))).1, (He.ba (c.fact 4 (f := fGlo "atom_text"))).2⟩
  g_in_order := ⟨He.glo_ok X G (He.ba (c.fact 5 (f := fGlo "in_order"))).1, (He.ba (c.fact 5 (f := fGlo "in_order"))).2⟩
  g_text_of := ⟨He.glo_ok X G (He.ba (c.fact 6 (f := fGlo "text_of"))).1, (He.ba (c.fact 6 (f := fGlo "text_of"))).2⟩
  g_sign_at := ⟨He.glo_ok X G (He.ba (c.fact 7 (f := fGlo "sign_at"))).1, (He.ba (c.fact 7 (f := fGlo "sign_at"))).2⟩
  g_BadText := ⟨He.glo_ok X G (He.ba (c.fact 8 (f := fGlo "BadText"))).1, (He.ba (c.fact 8 (f := fGlo "BadText"))).2⟩
  v_LETTERS := (let ⟨t, e⟩ := He.str_ok X G (c.fact 9 (f := fStr "LETTERS" "abcdefghijklmnopqrstuvwxyz")); ⟨_, e, t, rfl⟩)
  v_DIGITS := (let ⟨t, e⟩ := He.str_ok X G (c.fact 10 (f := fStr "DIGITS" "0123456789")); ⟨_, e, t, rfl⟩)
  v_LONGEST := (let ⟨t, e⟩ := He.int_ok X G (c.fact 11 (f := fInt "LONGEST" 8)); ⟨_, e, t, rfl⟩)
  g_read_name := ⟨He.glo_ok X G (He.ba (c.fact 12 (f := fGlo "read_name"))).1, (He.ba (c.fact 12 (f := fGlo "read_name"))).2⟩
  g_read_names := ⟨He.glo_ok X G (He.ba (c.fact 13 (f := fGlo "read_names"))).1, (He.ba (c.fact 13 (f := fGlo "read_names"))).2⟩
  g_read_group := ⟨He.glo_ok X G (He.ba (c.fact 14 (f := fGlo "read_group"))).1, (He.ba (c.fact 14 (f := fGlo "read_group"))).2⟩
  g_read_item := ⟨He.glo_ok X G (He.ba (c.fact 15 (f := fGlo "read_item"))).1, (He.ba (c.fact 15 (f := fGlo "read_item"))).2⟩
  g_read_row := ⟨He.glo_ok X G (He.ba (c.fact 16 (f := fGlo "read_row"))).1, (He.ba (c.fact 16 (f := fGlo "read_row"))).2⟩
  g_expect := ⟨He.glo_ok X G (He.ba (c.fact 17 (f := fGlo "expect"))).1, (He.ba (c.fact 17 (f := fGlo "expect"))).2⟩
  g_behind_row := ⟨He.glo_ok X G (He.ba (c.fact 18 (f := fGlo "behind_row"))).1, (He.ba (c.fact 18 (f := fGlo "behind_row"))).2⟩
  tg_ENDS := He.glo_ok X G (c.fact 19 (f := fGloA "ENDS"))
  tv_ENDS_0 := tabV_ok (c.fact 20 (f := fTabV "ENDS" "*" "repeat"))
  tv_ENDS_1 := tabV_ok (c.fact 21 (f := fTabV "ENDS" "?" "option"))
  mk_Pattern := He.mkr_ok (c.fact 22 (f := fMkr "Pattern"))
  g_read_pattern := ⟨He.glo_ok X G (He.ba (c.fact 23 (f := fGlo "read_pattern"))).1, (He.ba (c.fact 23 (f := fGlo "read_pattern"))).2⟩
  n_int := He.free_ok X G (c.fact 24 (f := fFree "int"))
  g_law_take := ⟨He.glo_ok X G (He.ba (c.fact 25 (f := fGlo "_law_take"))).1, (He.ba (c.fact 25 (f := fGlo "_law_take"))).2⟩
  n_range := He.free_ok X G (c.fact 26 (f := fFree "range"))
  g_law_drawn := ⟨He.glo_ok X G (He.ba (c.fact 27 (f := fGlo "_law_drawn"))).1, (He.ba (c.fact 27 (f := fGlo "_law_drawn"))).2⟩
  g_law_in_name := ⟨He.glo_ok X G (He.ba (c.fact 28 (f := fGlo "_law_in_name"))).1, (He.ba (c.fact 28 (f := fGlo "_law_in_name"))).2⟩
  g_law_bracket := ⟨He.glo_ok X G (He.ba (c.fact 29 (f := fGlo "_law_bracket"))).1, (He.ba (c.fact 29 (f := fGlo "_law_bracket"))).2⟩
  g_law_after := ⟨He.glo_ok X G (He.ba (c.fact 30 (f := fGlo "_law_after"))).1, (He.ba (c.fact 30 (f := fGlo "_law_after"))).2⟩
  g_law_item := ⟨He.glo_ok X G (He.ba (c.fact 31 (f := fGlo "_law_item"))).1, (He.ba (c.fact 31 (f := fGlo "_law_item"))).2⟩
  n_enumerate := He.free_ok X G (c.fact 32 (f := fFree "enumerate"))
  g_law_goes := ⟨He.glo_ok X G (He.ba (c.fact 33 (f := fGlo "_law_goes"))).1, (He.ba (c.fact 33 (f := fGlo "_law_goes"))).2⟩
  cm_Pattern_read := cmet_ok (c.fact 34 (f := fCMet "Pattern" "read"))
  g_Pattern := ⟨He.glo_ok X G (He.ba (c.fact 35 (f := fGlo "Pattern"))).1, (He.ba (c.fact 35 (f := fGlo "Pattern"))).2⟩
  cl_Pattern := He.cls_ok (c.fact 36 (f := fCls "Pattern"))
  pr_Pattern_text := prop_ok (c.fact 37 (f := fProp "Pattern" "text"))
  xc_BadText := xcB_ok (c.fact 38 (f := fXc "BadText"))
  xn_BadText_place := He.noat_ok (c.fact 39 (f := fNoat "BadText" "place"))
  g_law_pool := ⟨He.glo_ok X G (He.ba (c.fact 40 (f := fGlo "_law_pool"))).1, (He.ba (c.fact 40 (f := fGlo "_law_pool"))).2⟩
  g_law_cell := ⟨He.glo_ok X G (He.ba (c.fact 41 (f := fGlo "_law_cell"))).1, (He.ba (c.fact 41 (f := fGlo "_law_cell"))).2⟩
  g_law_names := ⟨He.glo_ok X G (He.ba (c.fact 42 (f := fGlo "_law_names"))).1, (He.ba (c.fact 42 (f := fGlo "_law_names"))).2⟩
  g_law_spoiled := ⟨He.glo_ok X G (He.ba (c.fact 43 (f := fGlo "_law_spoiled"))).1, (He.ba (c.fact 43 (f := fGlo "_law_spoiled"))).2⟩
  g_law_place := ⟨He.glo_ok X G (He.ba (c.fact 44 (f := fGlo "_law_place"))).1, (He.ba (c.fact 44 (f := fGlo "_law_place"))).2⟩
  g_law_told := ⟨He.glo_ok X G (He.ba (c.fact 45 (f := fGlo "_law_told"))).1, (He.ba (c.fact 45 (f := fGlo "_law_told"))).2⟩
  n_isinstance := He.free_ok X G (c.fact 46 (f := fFree "isinstance"))
  n_list := He.free_ok X G (c.fact 47 (f := fFree "list"))
  xi_BadText := xi_ok (c.fact 48 (f := fXi "BadText"))
  g_law := ⟨He.glo_ok X G (He.ba (c.fact 49 (f := fGlo "law"))).1, (He.ba (c.fact 49 (f := fGlo "law"))).2⟩
  na_Pattern_tree := He.noat_ok (c.fact 50 (f := fNoat "Pattern" "tree"))
  ex_BadText_BadText := He.exm_ok (c.fact 51 (f := fExm "BadText" "BadText" true))
  tab_ENDS := tabS_of tb (i := 0) (kvs := [("*", "repeat"), ("?", "option")]) rfl (List.forall_mem_cons.mpr ⟨tabV_ok (c.fact 20 (f := fTabV "ENDS" "*" "repeat")), (List.forall_mem_cons.mpr ⟨tabV_ok (c.fact 21 (f := fTabV "ENDS" "?" "option")), (fun _ h => nomatch h)⟩)⟩)
  d_in_order := c.def_ 0
  d_atom_text := c.def_ 1
  d_text_of := c.def_ 2
  d_Pattern___init := c.def_ 3
  d_Pattern_text := c.def_ 4
  d_sign_at := c.def_ 5
  d_expect := c.def_ 6
  d_behind_row := c.def_ 7
  d_read_name := c.def_ 8
  d_read_names := c.def_ 9
  d_read_item := c.def_ 10
  d_read_row := c.def_ 11
  d_read_group := c.def_ 12
  d_read_pattern := c.def_ 13
  d_Pattern_read := c.def_ 14
  d_law_cell := c.def_ 15
  d_law_pool := c.def_ 16
  d_law_take := c.def_ 17
  d_law_names := c.def_ 18
  d_law_drawn := c.def_ 19
  d_law_in_name := c.def_ 20
  d_law_item := c.def_ 21
  d_law_after := c.def_ 22
  d_law_bracket := c.def_ 23
  d_law_goes := c.def_ 24
  d_law_place := c.def_ 25
  d_law_spoiled := c.def_ 26
  d_law_told := c.def_ 27
  d_law := c.def_ 28
  d_BadText___init := c.def_ 29
section
variable {P : Program} {w : World} {K : PySem.W.Frag} {mg : Str → Option Value} {base : Heap}
theorem z_BadText (T : Tx K mg w) : Xn P w K mg base (He.ga K "BadText") "place" := by
  obtain ⟨fd, F⟩ := T.d_BadText___init
  exact ⟨T.xc_BadText, T.xn_BadText_place, _, fd, "place", T.xi_BadText.1, T.xi_BadText.2, init1_ok F sc_BadText___init (fun cdv A outer s H E => pss_one (ps_ost (pv 0) (pv 1))), F.bindsN (fun _ _ _ _ _ _ us hl => match us, hl with | [_, _], _ => rfl)⟩
theorem all_ok {fd : FuncData} (T : Tx K mg w) (F : FunD K "law" "law" (defArgs s_law) (defBody s_law) (defScope s_law) [] [] (He.ga K "law") fd) : FnOk P w K mg base (L2.CX P w) 170 (He.ga K "law") fd ["_law_script"] (spC K (ct_law K)) := by
  have Z_BadText : Xn P w K mg base (He.ga K "BadText") "place" := z_BadText T
  have F_in_order : Fn P w K mg base 4 (He.ga K "in_order") ["names"] (ct_in_order K) := ok_in_order T
  have F_atom_text : Fn P w K mg base 4 (He.ga K "atom_text") ["kind", "names"] (ct_atom_text K) := ok_atom_text T
  have F_text_of : Fn P w K mg base 134 (He.ga K "text_of") ["tree"] (ct_text_of 64 K) := ok_text_of T F_in_order F_atom_text 64
  have F_Pattern___init : Fn P w K mg base 4 (He.ma K (He.ga K "Pattern") "__init__") ["self", "tree"] (ct_Pattern___init K) := ok_Pattern___init T
  have F_Pattern_text : Fn P w K mg base 136 (pga K (He.ga K "Pattern") "text") ["self"] (ct_Pattern_text K) := ok_Pattern_text T F_text_of
  have F_sign_at : Fn P w K mg base 4 (He.ga K "sign_at") ["text", "at"] (ct_sign_at K) := ok_sign_at T
  have F_expect : Fn P w K mg base 6 (He.ga K "expect") ["text", "at", "wanted"] (ct_expect K) := ok_expect T F_sign_at Z_BadText
  have F_behind_row : Fn P w K mg base 6 (He.ga K "behind_row") ["text", "at"] (ct_behind_row K) := ok_behind_row T F_sign_at
  have F_read_name : Fn P w K mg base 6 (He.ga K "read_name") ["text", "at"] (ct_read_name K) := ok_read_name T F_sign_at Z_BadText
  have F_read_names : Fn P w K mg base 8 (He.ga K "read_names") ["text", "at"] (ct_read_names K) := ok_read_names T F_sign_at F_read_name Z_BadText
  have F_read_group : Fn P w K mg base 160 (He.ga K "read_group") ["text", "at"] (ct_read_group 50 K) := ok_read_group T F_sign_at F_expect F_behind_row F_read_name F_read_names Z_BadText 50
  have F_read_item : Fn P w K mg base 161 (He.ga K "read_item") ["text", "at"] (ct_read_item 50 K) := ok_read_item T F_sign_at F_read_name F_read_names (d := 50) F_read_group
  have F_read_row : Fn P w K mg base 162 (He.ga K "read_row") ["text", "at"] (ct_read_row 50 K) := ok_read_row T F_sign_at (d := 50) F_read_item
  have F_read_pattern : Fn P w K mg base 164 (He.ga K "read_pattern") ["text"] (ct_read_pattern K) := ok_read_pattern T F_behind_row F_read_row Z_BadText
  have F_Pattern_read : Fn P w K mg base 166 (cga K (He.ga K "Pattern") "read") ["cls", "text"] (ct_Pattern_read K) := ok_Pattern_read T F_Pattern___init F_read_pattern
  have F_law_cell : Fn P w K mg base 4 (He.ga K "_law_cell") ["_law_script", "_law_k"] (ct_law_cell K) := ok_law_cell T
  have F_law_pool : Fn P w K mg base 4 (He.ga K "_law_pool") ["_law_cell_here"] (ct_law_pool K) := ok_law_pool T
  have F_law_take : Fn P w K mg base 4 (He.ga K "_law_take") ["_law_pool_here", "_law_many"] (ct_law_take K) := ok_law_take T
  have F_law_names : Fn P w K mg base 6 (He.ga K "_law_names") ["_law_pool_here", "_law_many"] (ct_law_names K) := ok_law_names T F_law_take
  have F_law_drawn : Fn P w K mg base 14 (He.ga K "_law_drawn") ["_law_pool_here", "_law_names_here", "_law_depth"] (ct_law_drawn 4 K) := ok_law_drawn T F_law_take 4
  have F_law_in_name : Fn P w K mg base 4 (He.ga K "_law_in_name") ["_law_sign", "_law_count"] (ct_law_in_name K) := ok_law_in_name T
  have F_law_item : Fn P w K mg base 4 (He.ga K "_law_item") ["_law_sign", "_law_bars"] (ct_law_item K) := ok_law_item T
  have F_law_after : Fn P w K mg base 4 (He.ga K "_law_after") ["_law_sign", "_law_bars"] (ct_law_after K) := ok_law_after T
  have F_law_bracket : Fn P w K mg base 6 (He.ga K "_law_bracket") ["_law_mode", "_law_sign", "_law_count"] (ct_law_bracket K) := ok_law_bracket T F_law_in_name
  have F_law_goes : Fn P w K mg base 8 (He.ga K "_law_goes") ["_law_mode", "_law_sign", "_law_count", "_law_bars"] (ct_law_goes K) := ok_law_goes T F_law_in_name F_law_item F_law_after F_law_bracket
  have F_law_place : Fn P w K mg base 10 (He.ga K "_law_place") ["_law_text"] (ct_law_place K) := ok_law_place T F_law_goes
  have F_law_spoiled : Fn P w K mg base 6 (He.ga K "_law_spoiled") ["_law_pool_here", "_law_text"] (ct_law_spoiled K) := ok_law_spoiled T F_law_take
  have F_law_told : Fn P w K mg base 168 (He.ga K "_law_told") ["_law_text"] (ct_law_told K) := ok_law_told T F_Pattern_text F_Pattern_read
  exact ok_law T F_law_cell F_law_pool F_law_take F_law_names F_law_drawn F_law_place F_law_spoiled F_law_told F
end
end K13
open PySem PySem.W PySem.Calls PyProof.Rows
theorem PySem.Challenge.cw_alsoshown_k13_written_patterns_refused_holds : PySem.Challenge.rw_alsoshown_k13_written_patterns_refused.Holds := by
  w_on; o_law
  refine HandSHeadRun.head_any (r := K13.R) (q := K13.qv) (H := K13.hk) (ob := K13.ob) (M := 14000) (loose := K13.names) (d := HandSHeadRun.topDef K13.R.prog 54) (kwd := []) K13.ob_eq
    (by kernel_rfl) (fun s => by kernel_rfl) K13.run (by kernel_rfl) (by kernel_rfl) (by kernel_rfl) (by rfl) (by first | assumption | decide +kernel) (by decide +kernel) ⟨rfl, rfl, rfl, rfl, rfl, by decide +kernel⟩ ?hw ?hc
  case hw => w_witness2
  case hc =>
    refine DL.walk_D (l := PySem.Challenge.rw_alsoshown_k13_written_patterns_refused) (n := 63) (k := 170) (x := "_law_script") rfl (by decide) (by kernel_rfl) ⟨rfl, by decide, by decide⟩ ?F
    intro w mg fa h Y G hmg0
    obtain ⟨K, KX, c, tb⟩ := Y
    have hmg : mg ("law" : PySem.Str) = some (.ref fa) := by
      have e : (HandSHeadRun.topDef K13.R.prog 54).name = ("law" : PySem.Str) := by kernel_rfl
      rw [← e]
      exact hmg0
    have T := K13.tx_of KX G c tb
    obtain ⟨fd, F⟩ := T.d_law
    have e := hmg.symm.trans T.g_law.1
    cases e
    exact ⟨K, K13.ct_law K, fd, KX, fun z ns hs => ⟨z, rfl, ns, hs, rfl, rfl⟩, fun s v => L2.FunD.bindsA (ps := ["_law_script"]) F (fun _ _ _ _ _ _ us hl => match us, hl with | [_], _ => rfl) s [v] rfl, fun base => K13.all_ok T F⟩


