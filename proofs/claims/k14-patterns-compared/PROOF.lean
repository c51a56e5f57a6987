import PyProof.Rows.All
import Wide.All
import OpenK.AllK
import Wide.FinOn
import HandS.Base
import HandS.Call
import HandS.List
import HandS.Comp
import HandS.Dict
import HandS.Iter
import HandS.Text
import HandS.Evl
import HandS.TupAny
import KE.KeyNested
import HandS.Wide
import HandS.Steps
import HandS.Exc
import HandS.Words
import HandS.WordsExc
import PyProof.NeData
import HandS.OwnEq
import HandS.Property
import HandS.IsInst
import HandS.ExcInit
import HandS.Defaults
import KE.KOpsOwn
import PyProof.InstNe
import HandS.Head0
import HandS.ExcField
import HandS.ExcOwn
import HandS.Codes
import HandS.Conv
import HandS.Style
import KE.KStateDown
import HandS.Head1
import HandS.Head2
import HandS.HeadEnd
import HandS.HeadHook1
import HandS.HeadHook2
import HandS.EndBits
import HandS.TupMul
import KE.DataCmp
import KE.DatumOrd
import HandS.DictComp
import HandS.RaiseMore
import KE.DataEq
import HandS.Finally
import KE.GoesNew
import KE.GoesMore
import OpenK.KMeth
import HandS.Small
import HandS.TupSets
import HandS.Star
import PyProof.Rows.TupDisplay
import KE.KDictCopyH
import PyProof.FactsAll.dict_2
import PySem.Challenge.RW_alsoshown_k14_patterns_compared
set_option Elab.async false
set_option linter.all false
set_option maxRecDepth 100000
set_option maxHeartbeats 4000000
/-! DA: a logic of data over the readings: frozen data, views, cells (own work). -/
namespace DL
open PySem L2

/-- data -/
inductive D where
  | non | bl (b : Bool) | int (i : Int) | str (s : Str)
  | tup (xs : List D) | lst (xs : List D) | dic (kvs : List (Key × D)) | dit (kvs : List (List Key × D))
  | ins (C : Addr) (fs : List (Str × D)) | ty (n : String) | adr (a : Addr)
  | din (w : World) (kvs : List (NestedKey × D))

/-! ### dicts whose keys are tuples of any depth -/
/-- an entry as it lies in the dict's object -/
def entN (w : World) (q : NestedKey × Addr × Value) : DictEntry := ⟨q.1.hash w, .ref q.2.1, q.2.2⟩
/-- the dict at a: its keys (each at its address), its values -/
def DnO (w : World) (a : Addr) (xs : List (NestedKey × Addr × V)) : HO := .ext fun h => xs.length ≤ sizeLine ∧ (a == sysModules) = false ∧ ∃ qs : List (NestedKey × Addr × Value),
  Paired (fun p q => p.1 = q.1 ∧ p.2.1 = q.2.1 ∧ RelV p.2.2 q.2.2) xs qs ∧ ∃ o es ep, h.get? a = some o ∧ o.ExactDict ∧ o.data = .dict es ep ∧ es.toList = qs.map (entN w) ∧ (qs.map (·.1)).Nodup
mutual
/-- a thing that is the key -/
def RkN (K : PySem.W.Frag) (F : Hp) : NestedKey → V → Prop
  | .none, v => v = .non
  | .num i, v => v = .int i
  | .text s, v => v = .str s
  | .tup ks, v => ∃ a xs, v = .ref a ∧ SqT K F a xs ∧ RkL K F ks xs
def RkL (K : PySem.W.Frag) (F : Hp) : List NestedKey → List V → Prop
  | [], xs => xs = []
  | k :: ks, xs => ∃ x ys, xs = x :: ys ∧ RkN K F k x ∧ RkL K F ks ys
end

mutual
def Rp (K : PySem.W.Frag) (F : Hp) : D → V → Prop
  | .non, v => v = .non
  | .bl b, v => v = .bl b
  | .int i, v => v = .int i
  | .str s, v => v = .str s
  | .ty n, v => v = .ty n
  | .adr a, v => v = .ref a
  | .tup ds, v => ∃ a xs, v = .ref a ∧ SqT K F a xs ∧ RpL K F ds xs
  | .lst ds, v => ∃ a xs, v = .ref a ∧ Rd F a (.lst xs) ∧ RpL K F ds xs
  | .dic ds, v => ∃ a xs, v = .ref a ∧ Rd F a (.dK xs) ∧ RpK K F ds xs
  | .dit ds, v => ∃ a xs, v = .ref a ∧ Rd F a (.dT xs) ∧ RpT K F ds xs
  | .ins C ds, v => ∃ a dx xs, v = .ref a ∧ Rd F a (.ins C dx xs) ∧ RpF K F ds xs
  | .din w ds, v => ∃ a xs, v = .ref a ∧ Rd F a (DnO w a xs) ∧ RpN K F ds xs
def RpN (K : PySem.W.Frag) (F : Hp) : List (NestedKey × D) → List (NestedKey × Addr × V) → Prop
  | [], xs => xs = []
  | (k, d) :: ds, xs => ∃ b x ys, xs = (k, b, x) :: ys ∧ (RkN K F k (.ref b) ∧ k.depth ≤ 8) ∧ Rp K F d x ∧ RpN K F ds ys
def RpL (K : PySem.W.Frag) (F : Hp) : List D → List V → Prop
  | [], xs => xs = []
  | d :: ds, xs => ∃ x ys, xs = x :: ys ∧ Rp K F d x ∧ RpL K F ds ys
def RpK (K : PySem.W.Frag) (F : Hp) : List (Key × D) → List (Key × V) → Prop
  | [], xs => xs = []
  | (k, d) :: ds, xs => ∃ x ys, xs = (k, x) :: ys ∧ Rp K F d x ∧ RpK K F ds ys
def RpT (K : PySem.W.Frag) (F : Hp) : List (List Key × D) → List (List Key × V) → Prop
  | [], xs => xs = []
  | (k, d) :: ds, xs => ∃ x ys, xs = (k, x) :: ys ∧ Rp K F d x ∧ RpT K F ds ys
def RpF (K : PySem.W.Frag) (F : Hp) : List (Str × D) → List (Str × V) → Prop
  | [], xs => xs = []
  | (k, d) :: ds, xs => ∃ x ys, xs = (k, x) :: ys ∧ Rp K F d x ∧ RpF K F ds ys
end


def isfz : HO → Bool
  | .frz _ _ => true
  | _ => false
/-- nothing of F is locked -/
def Nz (F : Hp) : Prop := ∀ a u, F a = some u → isfz u = false
/-- what a loop may lock -/
def lk : HO → Bool
  | .dK _ => true
  | .dT _ => true
  | .lst _ => true
  | .ext _ => true
  | _ => false
/-- all that F says may be read in H -/
def Exz (F H : Hp) : Prop := ∀ a u, F a = some u → H a = some u ∨ (lk u = true ∧ ∃ o, H a = some (.frz o u))
theorem exz_rd {F H : Hp} (e : Exz F H) {a : Addr} {u : HO} (h : F a = some u) : Rd H a u := by
  rcases e a u h with q | ⟨_, o, q⟩
  · exact .inl q
  · exact .inr ⟨o, q⟩
/-- what is never locked stands as it is -/
theorem Exz.at {F H : Hp} (e : Exz F H) {a : Addr} {u : HO} (h : F a = some u) (k : lk u = false) : H a = some u := by
  rcases e a u h with q | ⟨k2, _⟩
  · exact q
  · rw [k] at k2
    cases k2
/-- all of B stands in H as it is -/
def Sub (B H : Hp) : Prop := ∀ a o, B a = some o → H a = some o
theorem Sub.refl (H : Hp) : Sub H H := fun _ _ h => h
theorem Sub.trans {F G H : Hp} (a : Sub F G) (b : Sub G H) : Sub F H := fun x u h => b x u (a x u h)
theorem Sub.exz {B H : Hp} (e : Sub B H) : Exz B H := fun a u h => .inl (e _ _ h)
theorem Sub.new {H : Hp} {p : Addr} {o : HO} (h : H p = none) : Sub H (upd H p o) := fun a u e => by
  rw [upd_ne (ne_of_none e h)]
  exact e
theorem Sub.free {F H : Hp} (e : Sub F H) {a : Addr} (h : H a = none) : F a = none := by
  cases q : F a with
  | none => rfl
  | some o =>
    rw [e a o q] at h
    cases h
theorem rd_ne {H : Hp} {a : Addr} {u : HO} (h : Rd H a u) : H a ≠ none := by
  rcases h with h | ⟨o, h⟩ <;> rw [h] <;> exact fun q => by cases q
theorem Exz.free {F H : Hp} (e : Exz F H) {a : Addr} (h : H a = none) : F a = none := by
  cases q : F a with
  | none => rfl
  | some o => exact absurd h (rd_ne (exz_rd e q))
theorem Exz.rd {F H : Hp} (e : Exz F H) (n : Nz F) {a : Addr} {u : HO} (h : Rd F a u) : Rd H a u := by
  rcases h with h | ⟨o, h⟩
  · exact exz_rd e h
  · have := n a _ h
    cases this
theorem Exz.sub {F G H : Hp} (a : Exz F G) (b : Sub G H) : Exz F H := fun x u h => by
  rcases a x u h with q | ⟨k, o, q⟩
  · exact .inl (b _ _ q)
  · exact .inr ⟨k, o, b _ _ q⟩
theorem sqT_mono {K : PySem.W.Frag} {F H : Hp} {a : Addr} {xs : List V} (e : Exz F H) (n : Nz F) (h : SqT K F a xs) : SqT K H a xs := by
  rcases h with h | h
  · exact .inl (e.rd n h)
  · exact .inr h
section
variable {K : PySem.W.Frag} {F G : Hp}
mutual
theorem RkN.mono (e : Exz F G) (n : Nz F) : ∀ (k : NestedKey) (v : V), RkN K F k v → RkN K G k v
  | .none, _, h => h
  | .num _, _, h => h
  | .text _, _, h => h
  | .tup ks, v, h => by
    obtain ⟨a, xs, e1, h1, h2⟩ := h
    exact ⟨a, xs, e1, sqT_mono e n h1, RkL.mono e n ks xs h2⟩
theorem RkL.mono (e : Exz F G) (n : Nz F) : ∀ (ks : List NestedKey) (xs : List V), RkL K F ks xs → RkL K G ks xs
  | [], _, h => h
  | k :: ks, xs, h => by
    obtain ⟨x, ys, e1, h1, h2⟩ := h
    exact ⟨x, ys, e1, RkN.mono e n k x h1, RkL.mono e n ks ys h2⟩
end
mutual
theorem Rp.mono (e : Exz F G) (n : Nz F) : ∀ (d : D) (v : V), Rp K F d v → Rp K G d v
  | .non, _, h => h
  | .bl _, _, h => h
  | .int _, _, h => h
  | .str _, _, h => h
  | .ty _, _, h => h
  | .adr _, _, h => h
  | .tup ds, v, h => by
    obtain ⟨a, xs, e1, h1, h2⟩ := h
    exact ⟨a, xs, e1, sqT_mono e n h1, RpL.mono e n ds xs h2⟩
  | .lst ds, v, h => by
    obtain ⟨a, xs, e1, h1, h2⟩ := h
    exact ⟨a, xs, e1, e.rd n h1, RpL.mono e n ds xs h2⟩
  | .dic ds, v, h => by
    obtain ⟨a, xs, e1, h1, h2⟩ := h
    exact ⟨a, xs, e1, e.rd n h1, RpK.mono e n ds xs h2⟩
  | .dit ds, v, h => by
    obtain ⟨a, xs, e1, h1, h2⟩ := h
    exact ⟨a, xs, e1, e.rd n h1, RpT.mono e n ds xs h2⟩
  | .ins C ds, v, h => by
    obtain ⟨a, dx, xs, e1, h1, h2⟩ := h
    exact ⟨a, dx, xs, e1, e.rd n h1, RpF.mono e n ds xs h2⟩
  | .din w ds, v, h => by
    obtain ⟨a, xs, e1, h1, h2⟩ := h
    exact ⟨a, xs, e1, e.rd n h1, RpN.mono e n ds xs h2⟩
theorem RpN.mono (e : Exz F G) (n : Nz F) : ∀ (ds : List (NestedKey × D)) (xs : List (NestedKey × Addr × V)), RpN K F ds xs → RpN K G ds xs
  | [], _, h => h
  | (k, d) :: ds, xs, h => by
    obtain ⟨b, x, ys, e1, h0, h1, h2⟩ := h
    exact ⟨b, x, ys, e1, ⟨RkN.mono e n k _ h0.1, h0.2⟩, Rp.mono e n d x h1, RpN.mono e n ds ys h2⟩
theorem RpL.mono (e : Exz F G) (n : Nz F) : ∀ (ds : List D) (xs : List V), RpL K F ds xs → RpL K G ds xs
  | [], _, h => h
  | d :: ds, xs, h => by
    obtain ⟨x, ys, e1, h1, h2⟩ := h
    exact ⟨x, ys, e1, Rp.mono e n d x h1, RpL.mono e n ds ys h2⟩
theorem RpK.mono (e : Exz F G) (n : Nz F) : ∀ (ds : List (Key × D)) (xs : List (Key × V)), RpK K F ds xs → RpK K G ds xs
  | [], _, h => h
  | (k, d) :: ds, xs, h => by
    obtain ⟨x, ys, e1, h1, h2⟩ := h
    exact ⟨x, ys, e1, Rp.mono e n d x h1, RpK.mono e n ds ys h2⟩
theorem RpT.mono (e : Exz F G) (n : Nz F) : ∀ (ds : List (List Key × D)) (xs : List (List Key × V)), RpT K F ds xs → RpT K G ds xs
  | [], _, h => h
  | (k, d) :: ds, xs, h => by
    obtain ⟨x, ys, e1, h1, h2⟩ := h
    exact ⟨x, ys, e1, Rp.mono e n d x h1, RpT.mono e n ds ys h2⟩
theorem RpF.mono (e : Exz F G) (n : Nz F) : ∀ (ds : List (Str × D)) (xs : List (Str × V)), RpF K F ds xs → RpF K G ds xs
  | [], _, h => h
  | (k, d) :: ds, xs, h => by
    obtain ⟨x, ys, e1, h1, h2⟩ := h
    exact ⟨x, ys, e1, Rp.mono e n d x h1, RpF.mono e n ds ys h2⟩
end
end

/-! ### worlds -/
/-- what may be read of B and F together -/
def uni (B F : Hp) : Hp := fun a => match F a with
  | some o => some o
  | none => match B a with
    | some (.frz _ u) => if lk u then some u else none
    | x => x
inductive W where
  | val (d : D) | vw (d : D)
def WOk (K : PySem.W.Frag) (B F : Hp) (v : V) : W → Prop
  | .val d => Rp K F d v
  | .vw d => Rp K (uni B F) d v
inductive Nd where
  | lst (ds : List D) | dic (ds : List (Key × D)) | dit (ds : List (List Key × D)) | ldic (o : Obj) (xs : List (Key × V)) (ds : List (Key × D)) | ins (C : Addr) (ds : List (Str × D)) | xd (ds : List (Str × D))
  | din (w : World) (ds : List (NestedKey × D))
def NdOk (K : PySem.W.Frag) (F H : Hp) (a : Addr) : Nd → Prop
  | .lst ds => ∃ xs, H a = some (.lst xs) ∧ RpL K F ds xs
  | .dic ds => ∃ xs, H a = some (.dK xs) ∧ RpK K F ds xs
  | .dit ds => ∃ xs, H a = some (.dT xs) ∧ RpT K F ds xs
  | .ldic o xs ds => H a = some (.frz o (.dK xs)) ∧ RpK K F ds xs
  | .ins C ds => ∃ dx xs, H a = some (.ins C dx xs) ∧ RpF K F ds xs
  | .xd ds => ∃ xs, H a = some (.xd xs) ∧ RpF K F ds xs
  | .din w ds => ∃ xs, H a = some (DnO w a xs) ∧ RpN K F ds xs
abbrev Cells := List (Addr × Nd)
/-- F has grown, off B -/
structure Gr (B F F' : Hp) : Prop where
  sub : Sub F F'
  off : ∀ a, F a = none → B a ≠ none → F' a = none
theorem Gr.refl (B F : Hp) : Gr B F F := ⟨Sub.refl F, fun _ h _ => h⟩
theorem Gr.trans {B F G H : Hp} (a : Gr B F G) (b : Gr B G H) : Gr B F H := ⟨a.sub.trans b.sub, fun x h n => b.off x (a.off x h n) n⟩
/-- the state by data, over the frozen F: the slots, the cells, what is held on the way -/
structure EnF (K : PySem.W.Frag) (B F : Hp) (ro : List (Option W)) (ka : Cells) (ta : List (V × W)) (sg : L2.St) (H : Hp) : Prop where
  nz : Nz F
  fz : Exz F H
  fr : Sub B H
  nd : (ka.map (·.1)).Nodup
  ce : ∀ p ∈ ka, F p.1 = none ∧ B p.1 = none ∧ NdOk K F H p.1 p.2
  ln : sg.length = ro.length
  sl : ∀ (i : Nat) (w : W), ro[i]? = some (some w) → ∃ v, sg[i]? = some (some v) ∧ WOk K B F v w
  tm : ∀ p ∈ ta, WOk K B F p.1 p.2
def En (K : PySem.W.Frag) (B F0 : Hp) (ro : List (Option W)) (ka : Cells) (ta : List (V × W)) (sg : L2.St) (H : Hp) : Prop :=
  ∃ F, Gr B F0 F ∧ EnF K B F ro ka ta sg H

theorem uni_nz {B F : Hp} (n : Nz F) : Nz (uni B F) := fun a u h => by
  unfold uni at h
  split at h
  · rename_i o q
    exact n a u (q.trans h)
  · split at h
    · rename_i ob x q
      split at h
      · rename_i hx
        cases h
        cases u <;> first | rfl | cases hx
      · cases h
    · rename_i x q
      cases u with
      | frz ob z => exact absurd h (q ob z)
      | _ => rfl
theorem uni_exz {B F H : Hp} (fz : Exz F H) (fr : Sub B H) : Exz (uni B F) H := fun a u h => by
  unfold uni at h
  split at h
  · rename_i o q
    exact fz a u (q.trans h)
  · split at h
    · rename_i ob x q
      split at h
      · rename_i hx
        cases h
        exact .inr ⟨hx, ob, fr _ _ q⟩
      · cases h
    · exact .inl (fr _ _ h)
theorem uni_of {B F : Hp} {a : Addr} {u : HO} (h : F a = some u) : uni B F a = some u := by
  unfold uni
  rw [h]
theorem uni_sub {B F : Hp} : Sub F (uni B F) := fun _ _ h => uni_of h
theorem uni_gr {B F F' : Hp} (g : Gr B F F') : Sub (uni B F) (uni B F') := fun a u h => by
  unfold uni at h ⊢
  cases q : F a with
  | some o =>
    rw [q] at h
    rw [g.sub a o q]
    exact h
  | none =>
    rw [q] at h
    have hb : B a ≠ none := fun z => by
      rw [z] at h
      cases h
    rw [g.off a q hb]
    exact h
theorem wok_gr {K : PySem.W.Frag} {B F F' : Hp} (n : Nz F) (g : Gr B F F') {v : V} {w : W} (h : WOk K B F v w) : WOk K B F' v w := by
  cases w with
  | val d => exact Rp.mono g.sub.exz n d v h
  | vw d => exact Rp.mono (uni_gr g).exz (uni_nz n) d v h
/-- frozen data may be viewed -/
theorem wok_vw {K : PySem.W.Frag} {B F : Hp} (n : Nz F) {v : V} {d : D} (h : WOk K B F v (.val d)) : WOk K B F v (.vw d) := Rp.mono uni_sub.exz n d v h
theorem ndok_gr {K : PySem.W.Frag} {B F F' H : Hp} (n : Nz F) (g : Gr B F F') {a : Addr} {x : Nd} (h : NdOk K F H a x) : NdOk K F' H a x := by
  cases x with
  | lst ds => obtain ⟨xs, e, r⟩ := h; exact ⟨xs, e, RpL.mono g.sub.exz n _ _ r⟩
  | dic ds => obtain ⟨xs, e, r⟩ := h; exact ⟨xs, e, RpK.mono g.sub.exz n _ _ r⟩
  | dit ds => obtain ⟨xs, e, r⟩ := h; exact ⟨xs, e, RpT.mono g.sub.exz n _ _ r⟩
  | ldic o xs ds => obtain ⟨e, r⟩ := h; exact ⟨e, RpK.mono g.sub.exz n _ _ r⟩
  | ins C ds => obtain ⟨dx, xs, e, r⟩ := h; exact ⟨dx, xs, e, RpF.mono g.sub.exz n _ _ r⟩
  | xd ds => obtain ⟨xs, e, r⟩ := h; exact ⟨xs, e, RpF.mono g.sub.exz n _ _ r⟩
  | din w ds => obtain ⟨xs, e, r⟩ := h; exact ⟨xs, e, RpN.mono g.sub.exz n _ _ r⟩
/-- the address where a node stands is taken -/
theorem ndok_ne {K : PySem.W.Frag} {F H : Hp} {a : Addr} {x : Nd} (h : NdOk K F H a x) : H a ≠ none := by
  cases x with
  | lst ds => obtain ⟨xs, e, r⟩ := h; rw [e]; exact fun q => by cases q
  | dic ds => obtain ⟨xs, e, r⟩ := h; rw [e]; exact fun q => by cases q
  | dit ds => obtain ⟨xs, e, r⟩ := h; rw [e]; exact fun q => by cases q
  | ldic o xs ds => obtain ⟨e, r⟩ := h; rw [e]; exact fun q => by cases q
  | ins C ds => obtain ⟨dx, xs, e, r⟩ := h; rw [e]; exact fun q => by cases q
  | xd ds => obtain ⟨xs, e, r⟩ := h; rw [e]; exact fun q => by cases q
  | din w ds => obtain ⟨xs, e, r⟩ := h; rw [e]; exact fun q => by cases q
theorem ndok_at {K : PySem.W.Frag} {F H H' : Hp} {a : Addr} {x : Nd} (e : H' a = H a) (h : NdOk K F H a x) : NdOk K F H' a x := by
  cases x with
  | lst ds => obtain ⟨xs, q, r⟩ := h; exact ⟨xs, e.trans q, r⟩
  | dic ds => obtain ⟨xs, q, r⟩ := h; exact ⟨xs, e.trans q, r⟩
  | dit ds => obtain ⟨xs, q, r⟩ := h; exact ⟨xs, e.trans q, r⟩
  | ldic o xs ds => obtain ⟨q, r⟩ := h; exact ⟨e.trans q, r⟩
  | ins C ds => obtain ⟨dx, xs, q, r⟩ := h; exact ⟨dx, xs, e.trans q, r⟩
  | xd ds => obtain ⟨xs, q, r⟩ := h; exact ⟨xs, e.trans q, r⟩
  | din w ds => obtain ⟨xs, q, r⟩ := h; exact ⟨xs, e.trans q, r⟩
section
variable {K : PySem.W.Frag} {B F F' F0 : Hp} {ro : List (Option W)} {ka : Cells} {ta : List (V × W)} {sg : L2.St} {H : Hp}
/-- a new object is laid as frozen data -/
theorem EnF.lay (e : EnF K B F ro ka ta sg H) {p : Addr} {o : HO} (hp : H p = none) (hn : isfz o = false) : EnF K B (upd F p o) ro ka ta sg (upd H p o) ∧ Gr B F (upd F p o) := by
  have fp : F p = none := e.fz.free hp
  have bp : B p = none := e.fr.free hp
  have g : Gr B F (upd F p o) := ⟨Sub.new fp, fun a h1 h2 => by
    have ne : a ≠ p := fun q => h2 (q ▸ bp)
    rw [upd_ne ne]
    exact h1⟩
  refine ⟨⟨fun a u h => ?_, fun a u h => ?_, fun a u h => ?_, e.nd, fun q hq => ?_, e.ln, fun i w h => ?_, fun q hq => wok_gr e.nz g (e.tm q hq)⟩, g⟩
  · by_cases ha : a = p
    · subst ha; rw [upd_same] at h; cases h; exact hn
    · rw [upd_ne ha] at h; exact e.nz a u h
  · by_cases ha : a = p
    · subst ha; rw [upd_same] at h; cases h; exact .inl upd_same
    · rw [upd_ne ha] at h; exact e.fz.sub (Sub.new hp) a u h
  · have ha : a ≠ p := ne_of_none h bp
    rw [upd_ne ha]; exact e.fr a u h
  · obtain ⟨h1, h2, h3⟩ := e.ce q hq
    have nq : q.1 ≠ p := fun z => ndok_ne h3 (z ▸ hp)
    refine ⟨by rw [upd_ne nq]; exact h1, h2, ndok_at (upd_ne nq) (ndok_gr e.nz g h3)⟩
  · obtain ⟨v, h1, h2⟩ := e.sl i w h
    exact ⟨v, h1, wok_gr e.nz g h2⟩
/-- a new object is laid as a cell -/
theorem EnF.cell (e : EnF K B F ro ka ta sg H) {p : Addr} {o : HO} (hp : H p = none) {n : Nd} (hn : NdOk K F (upd H p o) p n) : EnF K B F ro (ka ++ [(p, n)]) ta sg (upd H p o) := by
  refine ⟨e.nz, e.fz.sub (Sub.new hp), e.fr.trans (Sub.new hp), ?_, fun q hq => ?_, e.ln, e.sl, e.tm⟩
  · rw [List.map_append, List.nodup_append]
    refine ⟨e.nd, by simp, fun a ha b hb => ?_⟩
    obtain ⟨q, hq, rfl⟩ := List.mem_map.mp ha
    simp at hb
    subst hb
    exact fun z => ndok_ne (e.ce q hq).2.2 (z ▸ hp)
  · rcases List.mem_append.mp hq with hq | hq
    · obtain ⟨h1, h2, h3⟩ := e.ce q hq
      have nq : q.1 ≠ p := fun z => ndok_ne h3 (z ▸ hp)
      exact ⟨h1, h2, ndok_at (upd_ne nq) h3⟩
    · simp at hq
      subst hq
      exact ⟨e.fz.free hp, e.fr.free hp, hn⟩
theorem EnF.push (e : EnF K B F ro ka ta sg H) {v : V} {w : W} (h : WOk K B F v w) : EnF K B F ro ka ((v, w) :: ta) sg H :=
  ⟨e.nz, e.fz, e.fr, e.nd, e.ce, e.ln, e.sl, fun p hp => (List.mem_cons.mp hp).elim (fun z => z ▸ h) (e.tm p)⟩
theorem EnF.held (e : EnF K B F ro ka ta sg H) {ta' : List (V × W)} (h : ∀ p ∈ ta', p ∈ ta) : EnF K B F ro ka ta' sg H :=
  ⟨e.nz, e.fz, e.fr, e.nd, e.ce, e.ln, e.sl, fun p hp => e.tm p (h p hp)⟩
/-- a slot is set -/
theorem EnF.set (e : EnF K B F ro ka ta sg H) {v : V} {w : W} (h : WOk K B F v w) (i : Nat) : EnF K B F (ro.set i (some w)) ka ta (sg.set i (some v)) H := by
  refine ⟨e.nz, e.fz, e.fr, e.nd, e.ce, by rw [List.length_set, List.length_set, e.ln], fun j w' hj => ?_, e.tm⟩
  by_cases hij : i = j
  · subst hij
    have hi : i < ro.length := by
      have := (List.getElem?_eq_some_iff.mp hj).1
      rwa [List.length_set] at this
    rw [List.getElem?_set_self hi] at hj
    cases hj
    exact ⟨v, by rw [List.getElem?_set_self (by rw [e.ln]; exact hi)], h⟩
  · rw [List.getElem?_set_ne hij] at hj ⊢
    exact e.sl j w' hj
/-- another frame: its slots -/
theorem EnF.frame (e : EnF K B F ro ka ta sg H) {ro' : List (Option W)} {sg' : L2.St} (hl : sg'.length = ro'.length) (h : ∀ (i : Nat) w, ro'[i]? = some (some w) → ∃ v, sg'[i]? = some (some v) ∧ WOk K B F v w) : EnF K B F ro' ka ta sg' H :=
  ⟨e.nz, e.fz, e.fr, e.nd, e.ce, hl, h, e.tm⟩
/-- cells in another order, some forgotten -/
theorem EnF.cells (e : EnF K B F ro ka ta sg H) {ka' : Cells} (hs : ka'.Sublist ka) : EnF K B F ro ka' ta sg H :=
  ⟨e.nz, e.fz, e.fr, (hs.map _).nodup e.nd, fun p hp => e.ce p (hs.subset hp), e.ln, e.sl, e.tm⟩
theorem EnF.perm (e : EnF K B F ro ka ta sg H) {ka' : Cells} (hs : ka'.Perm ka) : EnF K B F ro ka' ta sg H :=
  ⟨e.nz, e.fz, e.fr, (hs.map _).nodup_iff.mpr e.nd, fun p hp => e.ce p (hs.subset hp), e.ln, e.sl, e.tm⟩
/-- a cell is written -/
theorem EnF.write (e : EnF K B F ro ka ta sg H) {j : Nat} {p : Addr} {n n' : Nd} {o : HO} (hj : ka[j]? = some (p, n)) (hn : NdOk K F (upd H p o) p n') : EnF K B F ro (ka.set j (p, n')) ta sg (upd H p o) := by
  have hjl := (List.getElem?_eq_some_iff.mp hj).1
  have hm : (p, n) ∈ ka := List.mem_of_getElem? hj
  obtain ⟨fp, bp, _⟩ := e.ce _ hm
  have em : (ka.set j (p, n')).map (·.1) = ka.map (·.1) := by
    apply List.ext_getElem?
    intro i
    rw [List.getElem?_map, List.getElem?_map]
    by_cases hij : j = i
    · subst hij
      rw [List.getElem?_set_self hjl, hj]
      rfl
    · rw [List.getElem?_set_ne hij]
  refine ⟨e.nz, fun a u h => ?_, fun a u h => ?_, by rw [em]; exact e.nd, fun q hq => ?_, e.ln, e.sl, e.tm⟩
  · have ha : a ≠ p := ne_of_none h fp
    rcases e.fz a u h with q | ⟨k, ob, q⟩
    · exact .inl (by rw [upd_ne ha]; exact q)
    · exact .inr ⟨k, ob, by rw [upd_ne ha]; exact q⟩
  · have ha : a ≠ p := ne_of_none h bp
    rw [upd_ne ha]
    exact e.fr a u h
  · obtain ⟨i, hi⟩ := List.getElem?_of_mem hq
    by_cases hij : j = i
    · subst hij
      rw [List.getElem?_set_self hjl] at hi
      cases hi
      exact ⟨fp, bp, hn⟩
    · rw [List.getElem?_set_ne hij] at hi
      obtain ⟨h1, h2, h3⟩ := e.ce q (List.mem_of_getElem? hi)
      have nq : q.1 ≠ p := fun z => by
        have h4 : (ka.map (·.1))[i]? = some p := by rw [List.getElem?_map, hi]; simp [z]
        have h5 : (ka.map (·.1))[j]? = some p := by rw [List.getElem?_map, hj]; rfl
        obtain ⟨l1, e1⟩ := List.getElem?_eq_some_iff.mp h4
        obtain ⟨l2, e2⟩ := List.getElem?_eq_some_iff.mp h5
        exact hij ((List.getElem_inj e.nd).mp (e2.trans e1.symm))
      exact ⟨h1, h2, ndok_at (upd_ne nq) h3⟩
end
end DL

/-! DB: what expressions evaluate to, by data (own work). -/
namespace DL
open PySem L2

/-! ### judgements -/
section
variable (K : PySem.W.Frag)
abbrev Ro := List (Option W)
def EvD (te : TE) (ro : Ro) (ka : Cells) (w : W) (ka' : Cells) : Prop := ∀ B F0 ta sg H (Q : VK), En K B F0 ro ka ta sg H → (∀ v H', En K B F0 ro ka' ((v, w) :: ta) sg H' → Q v H') → te sg H Q
/-- a new cell -/
def EvN (te : TE) (ro : Ro) (ka : Cells) (n : Nd) (ka' : Cells) : Prop := ∀ B F0 ta sg H (Q : VK), En K B F0 ro ka ta sg H → (∀ a H', En K B F0 ro (ka' ++ [(a, n)]) ta sg H' → Q (.ref a) H') → te sg H Q
def EvT (tt : TT) (ro : Ro) (ka : Cells) (b : Bool) (ka' : Cells) : Prop := ∀ B F0 ta sg H (Q : Bool → Hp → Prop), En K B F0 ro ka ta sg H → (∀ H', En K B F0 ro ka' ta sg H' → Q b H') → tt sg H Q
def EvA (tr : TA) (ro : Ro) (ka : Cells) (ws : List W) (ka' : Cells) : Prop := ∀ B F0 ta sg H (Q : List V → Hp → Prop), En K B F0 ro ka ta sg H → (∀ vs H', vs.length = ws.length → En K B F0 ro ka' (vs.zip ws ++ ta) sg H' → Q vs H') → tr sg H Q
/-- a two-place operation, a one-place one -/
def RvD (r : R2) (ka : Cells) (x y z : W) : Prop := ∀ B F0 ro ta sg H u v (Q : VK), En K B F0 ro ka ta sg H → (u, x) ∈ ta → (v, y) ∈ ta → (∀ t H', En K B F0 ro ka ((t, z) :: ta) sg H' → Q t H') → r u v H Q
def RvN (r : R2) (ka : Cells) (x y : W) (n : Nd) : Prop := ∀ B F0 ro ta sg H u v (Q : VK), En K B F0 ro ka ta sg H → (u, x) ∈ ta → (v, y) ∈ ta → (∀ a H', En K B F0 ro (ka ++ [(a, n)]) ta sg H' → Q (.ref a) H') → r u v H Q
/-- a call by values -/
def RcD (r : List V → Hp → VK → Prop) (ka : Cells) (xs : List W) (z : W) : Prop := ∀ B F0 ro ta sg H us (Q : VK), En K B F0 ro ka ta sg H → us.length = xs.length → (∀ p ∈ us.zip xs, p ∈ ta) → (∀ t H', En K B F0 ro ka ((t, z) :: ta) sg H' → Q t H') → r us H Q
def RcN (r : List V → Hp → VK → Prop) (ka : Cells) (xs : List W) (n : Nd) : Prop := ∀ B F0 ro ta sg H us (Q : VK), En K B F0 ro ka ta sg H → us.length = xs.length → (∀ p ∈ us.zip xs, p ∈ ta) → (∀ a H', En K B F0 ro (ka ++ [(a, n)]) ta sg H' → Q (.ref a) H') → r us H Q
/-- a part of a slice -/
def EvO (to : TO) (ro : Ro) (ka : Cells) (o : Option Int) (ka' : Cells) : Prop := ∀ B F0 ta sg H (Q : Option Int → Hp → Prop), En K B F0 ro ka ta sg H → (∀ H', En K B F0 ro ka' ta sg H' → Q o H') → to sg H Q
end

section
variable {K : PySem.W.Frag} {B F0 : Hp} {ro : Ro} {ka k1 k2 k3 : Cells} {ta : List (V × W)} {sg : L2.St} {H : Hp} {te tf tg : TE} {tt tu : TT} {tr : TA} {w x y z : W} {n : Nd} {r : R2}
theorem En.held (e : En K B F0 ro ka ta sg H) {ta' : List (V × W)} (h : ∀ p ∈ ta', p ∈ ta) : En K B F0 ro ka ta' sg H :=
  let ⟨F, g, q⟩ := e
  ⟨F, g, q.held h⟩
theorem En.pop {p : V × W} (e : En K B F0 ro ka (p :: ta) sg H) : En K B F0 ro ka ta sg H := e.held fun _ h => List.mem_cons_of_mem _ h
/-- what data says of its value -/
theorem En.push_imm (e : En K B F0 ro ka ta sg H) {v : V} {w : W} (h : ∀ F, WOk K B F v w) : En K B F0 ro ka ((v, w) :: ta) sg H :=
  let ⟨F, g, q⟩ := e
  ⟨F, g, q.push (h F)⟩
theorem En.tm_int (e : En K B F0 ro ka ta sg H) {v : V} {i : Int} (h : (v, W.val (.int i)) ∈ ta) : v = .int i := let ⟨_, _, q⟩ := e; q.tm _ h
theorem En.tm_str (e : En K B F0 ro ka ta sg H) {v : V} {i : Str} (h : (v, W.val (.str i)) ∈ ta) : v = .str i := let ⟨_, _, q⟩ := e; q.tm _ h
theorem En.tm_bl (e : En K B F0 ro ka ta sg H) {v : V} {i : Bool} (h : (v, W.val (.bl i)) ∈ ta) : v = .bl i := let ⟨_, _, q⟩ := e; q.tm _ h
theorem En.tm_non (e : En K B F0 ro ka ta sg H) {v : V} (h : (v, W.val .non) ∈ ta) : v = .non := let ⟨_, _, q⟩ := e; q.tm _ h
theorem En.tm_adr (e : En K B F0 ro ka ta sg H) {v : V} {a : Addr} (h : (v, W.val (.adr a)) ∈ ta) : v = .ref a := let ⟨_, _, q⟩ := e; q.tm _ h
theorem En.tm_ty (e : En K B F0 ro ka ta sg H) {v : V} {i : String} (h : (v, W.val (.ty i)) ∈ ta) : v = .ty i := let ⟨_, _, q⟩ := e; q.tm _ h

/-- data that is the value itself -/
def imm : D → Bool
  | .non => true | .bl _ => true | .int _ => true | .str _ => true | .ty _ => true | .adr _ => true
  | _ => false
theorem imm_any {F G : Hp} : ∀ {d : D} {v : V}, imm d = true → Rp K F d v → Rp K G d v
  | .non, _, _, h => h
  | .bl _, _, _, h => h
  | .int _, _, _, h => h
  | .str _, _, _, h => h
  | .ty _, _, _, h => h
  | .adr _, _, _, h => h
/-- a part of something viewed, of something frozen -/
def part (b : Bool) (d : D) : W := if b && !imm d then .vw d else .val d
theorem wok_part {B F : Hp} {v : V} {d : D} (b : Bool) (h : Rp K (if b then uni B F else F) d v) : WOk K B F v (part b d) := by
  unfold part
  cases b with
  | false => exact h
  | true =>
    cases q : imm d with
    | true => exact imm_any q h
    | false => exact h
/-! ### names, constants -/
theorem ev_var {i : Nat} (h : ro[i]? = some (some w)) : EvD K (tVar i) ro ka w ka := fun B F0 ta sg H Q e q => by
  obtain ⟨F, g, e⟩ := e
  obtain ⟨v, h1, h2⟩ := e.sl i w h
  exact ⟨v, h1, q v H ⟨F, g, e.push h2⟩⟩
theorem ev_int {i : Int} : EvD K (tC (.int i)) ro ka (.val (.int i)) ka := fun B F0 ta sg H Q e q => q _ _ (e.push_imm fun _ => rfl)
theorem ev_str {i : Str} : EvD K (tC (.str i)) ro ka (.val (.str i)) ka := fun B F0 ta sg H Q e q => q _ _ (e.push_imm fun _ => rfl)
theorem ev_bl {i : Bool} : EvD K (tC (.bl i)) ro ka (.val (.bl i)) ka := fun B F0 ta sg H Q e q => q _ _ (e.push_imm fun _ => rfl)
theorem ev_non : EvD K (tC .non) ro ka (.val .non) ka := fun B F0 ta sg H Q e q => q _ _ (e.push_imm fun _ => rfl)
theorem ev_ref {a : Addr} : EvD K (tC (.ref a)) ro ka (.val (.adr a)) ka := fun B F0 ta sg H Q e q => q _ _ (e.push_imm fun _ => rfl)
theorem ev_ty {a : String} : EvD K (tC (.ty a)) ro ka (.val (.ty a)) ka := fun B F0 ta sg H Q e q => q _ _ (e.push_imm fun _ => rfl)

/-! ### operations -/
theorem ev_op (ha : EvD K te ro ka x k1) (hb : EvD K tf ro k1 y k2) (hr : RvD K r k2 x y z) : EvD K (tOp r te tf) ro ka z k2 := fun B F0 ta sg H Q e q =>
  ha B F0 ta sg H _ e fun u H1 e1 => hb B F0 _ sg H1 _ e1 fun v H2 e2 => hr B F0 ro _ sg H2 u v Q e2 (List.mem_cons_of_mem _ List.mem_cons_self) List.mem_cons_self fun t H3 e3 =>
    q t H3 (e3.held fun p hp => by
      rcases List.mem_cons.mp hp with rfl | hp
      · exact List.mem_cons_self
      · exact List.mem_cons_of_mem _ (List.mem_cons_of_mem _ (List.mem_cons_of_mem _ hp)))
theorem evn_op (ha : EvD K te ro ka x k1) (hb : EvD K tf ro k1 y k2) (hr : RvN K r k2 x y n) : EvN K (tOp r te tf) ro ka n k2 := fun B F0 ta sg H Q e q =>
  ha B F0 ta sg H _ e fun u H1 e1 => hb B F0 _ sg H1 _ e1 fun v H2 e2 => hr B F0 ro _ sg H2 u v Q e2 (List.mem_cons_of_mem _ List.mem_cons_self) List.mem_cons_self fun t H3 e3 =>
    q t H3 (e3.held fun p hp => List.mem_cons_of_mem _ (List.mem_cons_of_mem _ hp))
theorem ea_nil : EvA K tNil ro ka [] ka := fun B F0 ta sg H Q e q => q [] H rfl e
theorem ea_cons (ha : EvD K te ro ka x k1) {ws : List W} (hr : EvA K tr ro k1 ws k2) : EvA K (tCons te tr) ro ka (x :: ws) k2 := fun B F0 ta sg H Q e q =>
  ha B F0 ta sg H _ e fun u H1 e1 => hr B F0 _ sg H1 _ e1 fun vs H2 hl e2 => q (u :: vs) H2 (by rw [List.length_cons, List.length_cons, hl]) (e2.held fun p hp => by
    have hp' : p ∈ (u, x) :: (vs.zip ws ++ ta) := hp
    rcases List.mem_cons.mp hp' with rfl | h
    · exact List.mem_append_right _ List.mem_cons_self
    · rcases List.mem_append.mp h with h | h
      · exact List.mem_append_left _ h
      · exact List.mem_append_right _ (List.mem_cons_of_mem _ h))
theorem ev_cb {r : List V → Hp → VK → Prop} {ws : List W} (ha : EvA K tr ro ka ws k1) (hr : RcD K r k1 ws z) : EvD K (tCB r tr) ro ka z k1 := fun B F0 ta sg H Q e q =>
  ha B F0 ta sg H _ e fun us H1 hl e1 => hr B F0 ro _ sg H1 us Q e1 hl (fun p hp => List.mem_append_left _ hp) fun t H2 e2 => q t H2 (e2.held fun p hp => by
    rcases List.mem_cons.mp hp with rfl | hp
    · exact List.mem_cons_self
    · exact List.mem_cons_of_mem _ (List.mem_append_right _ hp))
theorem evn_cb {r : List V → Hp → VK → Prop} {ws : List W} (ha : EvA K tr ro ka ws k1) (hr : RcN K r k1 ws n) : EvN K (tCB r tr) ro ka n k1 := fun B F0 ta sg H Q e q =>
  ha B F0 ta sg H _ e fun us H1 hl e1 => hr B F0 ro _ sg H1 us Q e1 hl (fun p hp => List.mem_append_left _ hp) fun t H2 e2 => q t H2 (e2.held fun p hp => List.mem_append_right _ hp)
/-- another of the ways of an operation -/
theorem rvd_l {r' : R2} (h : RvD K r ka x y z) : RvD K (fun x y H Q => r x y H Q ∨ r' x y H Q) ka x y z := fun B F0 ro ta sg H u v Q e h1 h2 q => .inl (h B F0 ro ta sg H u v Q e h1 h2 q)
theorem rvd_r {r' : R2} (h : RvD K r' ka x y z) : RvD K (fun x y H Q => r x y H Q ∨ r' x y H Q) ka x y z := fun B F0 ro ta sg H u v Q e h1 h2 q => .inr (h B F0 ro ta sg H u v Q e h1 h2 q)
theorem rvn_l {r' : R2} (h : RvN K r ka x y n) : RvN K (fun x y H Q => r x y H Q ∨ r' x y H Q) ka x y n := fun B F0 ro ta sg H u v Q e h1 h2 q => .inl (h B F0 ro ta sg H u v Q e h1 h2 q)
theorem rvn_r {r' : R2} (h : RvN K r' ka x y n) : RvN K (fun x y H Q => r x y H Q ∨ r' x y H Q) ka x y n := fun B F0 ro ta sg H u v Q e h1 h2 q => .inr (h B F0 ro ta sg H u v Q e h1 h2 q)
theorem rcd_l {r r' : List V → Hp → VK → Prop} {xs : List W} (h : RcD K r ka xs z) : RcD K (fun x H Q => r x H Q ∨ r' x H Q) ka xs z := fun B F0 ro ta sg H u Q e h1 h2 q => .inl (h B F0 ro ta sg H u Q e h1 h2 q)
theorem rcd_r {r r' : List V → Hp → VK → Prop} {xs : List W} (h : RcD K r' ka xs z) : RcD K (fun x H Q => r x H Q ∨ r' x H Q) ka xs z := fun B F0 ro ta sg H u Q e h1 h2 q => .inr (h B F0 ro ta sg H u Q e h1 h2 q)
/-! ### a new cell, frozen -/
theorem En.freeze_l (e : En K B F0 ro (ka ++ [(a, .lst ds)]) ta sg H) : En K B F0 ro ka ((.ref a, .val (.lst ds)) :: ta) sg H := by
  obtain ⟨F, g, e⟩ := e
  obtain ⟨fa, ba, xs, ha, rl⟩ := e.ce (a, .lst ds) (by simp)
  have gg : Gr B F (upd F a (.lst xs)) := ⟨Sub.new fa, fun b h1 h2 => by
    have ne : b ≠ a := fun q => h2 (q ▸ ba)
    rw [upd_ne ne]
    exact h1⟩
  have nd2 := e.nd
  rw [List.map_append, List.nodup_append] at nd2
  refine ⟨upd F a (.lst xs), g.trans gg, ⟨fun b u h => ?_, fun b u h => ?_, e.fr, nd2.1, fun q hq => ?_, e.ln, fun i w h => ?_, fun q hq => ?_⟩⟩
  · by_cases hb : b = a
    · subst hb; rw [upd_same] at h; cases h; rfl
    · rw [upd_ne hb] at h; exact e.nz b u h
  · by_cases hb : b = a
    · subst hb; rw [upd_same] at h; cases h; exact .inl ha
    · rw [upd_ne hb] at h; exact e.fz b u h
  · obtain ⟨h1, h2, h3⟩ := e.ce q (List.mem_append_left _ hq)
    have nq : q.1 ≠ a := fun z => nd2.2.2 q.1 (List.mem_map.mpr ⟨q, hq, rfl⟩) a (by simp) z
    exact ⟨by rw [upd_ne nq]; exact h1, h2, ndok_gr e.nz gg h3⟩
  · obtain ⟨v, h1, h2⟩ := e.sl i w h
    exact ⟨v, h1, wok_gr e.nz gg h2⟩
  · rcases List.mem_cons.mp hq with rfl | hq
    · exact ⟨a, xs, rfl, .inl upd_same, RpL.mono gg.sub.exz e.nz _ _ rl⟩
    · exact wok_gr e.nz gg (e.tm q hq)
theorem En.freeze_k (e : En K B F0 ro (ka ++ [(a, .dic ds)]) ta sg H) : En K B F0 ro ka ((.ref a, .val (.dic ds)) :: ta) sg H := by
  obtain ⟨F, g, e⟩ := e
  obtain ⟨fa, ba, xs, ha, rl⟩ := e.ce (a, .dic ds) (by simp)
  have gg : Gr B F (upd F a (.dK xs)) := ⟨Sub.new fa, fun b h1 h2 => by
    have ne : b ≠ a := fun q => h2 (q ▸ ba)
    rw [upd_ne ne]
    exact h1⟩
  have nd2 := e.nd
  rw [List.map_append, List.nodup_append] at nd2
  refine ⟨upd F a (.dK xs), g.trans gg, ⟨fun b u h => ?_, fun b u h => ?_, e.fr, nd2.1, fun q hq => ?_, e.ln, fun i w h => ?_, fun q hq => ?_⟩⟩
  · by_cases hb : b = a
    · subst hb; rw [upd_same] at h; cases h; rfl
    · rw [upd_ne hb] at h; exact e.nz b u h
  · by_cases hb : b = a
    · subst hb; rw [upd_same] at h; cases h; exact .inl ha
    · rw [upd_ne hb] at h; exact e.fz b u h
  · obtain ⟨h1, h2, h3⟩ := e.ce q (List.mem_append_left _ hq)
    have nq : q.1 ≠ a := fun z => nd2.2.2 q.1 (List.mem_map.mpr ⟨q, hq, rfl⟩) a (by simp) z
    exact ⟨by rw [upd_ne nq]; exact h1, h2, ndok_gr e.nz gg h3⟩
  · obtain ⟨v, h1, h2⟩ := e.sl i w h
    exact ⟨v, h1, wok_gr e.nz gg h2⟩
  · rcases List.mem_cons.mp hq with rfl | hq
    · exact ⟨a, xs, rfl, .inl upd_same, RpK.mono gg.sub.exz e.nz _ _ rl⟩
    · exact wok_gr e.nz gg (e.tm q hq)
theorem EvN.lst {ds : List D} (h : EvN K te ro ka (.lst ds) k1) : EvD K te ro ka (.val (.lst ds)) k1 := fun B F0 ta sg H Q e q => h B F0 ta sg H Q e fun a H1 e1 => q _ _ e1.freeze_l
theorem EvN.dic {ds : List (Key × D)} (h : EvN K te ro ka (.dic ds) k1) : EvD K te ro ka (.val (.dic ds)) k1 := fun B F0 ta sg H Q e q => h B F0 ta sg H Q e fun a H1 e1 => q _ _ e1.freeze_k

/-! ### tests -/
theorem et_test {b : Bool} (h : EvD K te ro ka (.val (.bl b)) k1) : EvT K (tTest te) ro ka b k1 := fun B F0 ta sg H Q e q => h B F0 ta sg H _ e fun v H1 e1 => ⟨b, e1.tm_bl List.mem_cons_self, q H1 e1.pop⟩
theorem et_B {b : Bool} (h : EvD K te ro ka (.val (.bl b)) k1) : EvT K (tB te) ro ka b k1 := fun B F0 ta sg H Q e q => h B F0 ta sg H _ e fun v H1 e1 => ⟨b, e1.tm_bl List.mem_cons_self, q H1 e1.pop⟩
theorem et_not {a : Bool} (h : EvT K tt ro ka a k1) : EvT K (tNot tt) ro ka (!a) k1 := fun B F0 ta sg H Q e q => h B F0 ta sg H _ e fun H1 e1 => q H1 e1
/-- and, or: k2 is reached in any case -/
theorem et_and {a b : Bool} (h1 : EvT K tt ro ka a k1) (h2 : a = true → EvT K tu ro k1 b k1) : EvT K (tAnd tt tu) ro ka (a && b) k1 := fun B F0 ta sg H Q e q => h1 B F0 ta sg H _ e fun H1 e1 => by
  cases a with
  | true => exact h2 rfl B F0 ta sg H1 Q e1 q
  | false => exact q H1 e1
theorem et_or {a b : Bool} (h1 : EvT K tt ro ka a k1) (h2 : a = false → EvT K tu ro k1 b k1) : EvT K (tOr tt tu) ro ka (a || b) k1 := fun B F0 ta sg H Q e q => h1 B F0 ta sg H _ e fun H1 e1 => by
  cases a with
  | true => exact q H1 e1
  | false => exact h2 rfl B F0 ta sg H1 Q e1 q
theorem et_or0 {b : Bool} (h1 : EvT K tt ro ka false k1) (h2 : EvT K tu ro k1 b k2) : EvT K (tOr tt tu) ro ka b k2 := fun B F0 ta sg H Q e q => h1 B F0 ta sg H _ e fun H1 e1 => h2 B F0 ta sg H1 Q e1 q
theorem et_or1 (h1 : EvT K tt ro ka true k1) : EvT K (tOr tt tu) ro ka true k1 := fun B F0 ta sg H Q e q => h1 B F0 ta sg H _ e fun H1 e1 => q H1 e1
theorem EvT.to {a b : Bool} (h : EvT K tt ro ka a k1) (e : a = b) : EvT K tt ro ka b k1 := e ▸ h
theorem EvD.to {w' : W} (h : EvD K te ro ka w k1) (e : w = w') : EvD K te ro ka w' k1 := e ▸ h
theorem EvD.imm {d : D} (h : EvD K te ro ka (.vw d) k1) (i : imm d = true) : EvD K te ro ka (.val d) k1 := fun B F0 ta sg H Q e q => h B F0 ta sg H _ e fun v H1 e1 => q v H1 (by
  obtain ⟨F, g, e1⟩ := e1
  have h1 := e1.tm _ List.mem_cons_self
  exact ⟨F, g, (e1.held (ta' := ta) fun p hp => List.mem_cons_of_mem _ hp).push (imm_any i h1)⟩)
theorem EvD.vw {d : D} (h : EvD K te ro ka (.val d) k1) : EvD K te ro ka (.vw d) k1 := fun B F0 ta sg H Q e q => h B F0 ta sg H _ e fun v H1 e1 => q v H1 (by
  obtain ⟨F, g, e1⟩ := e1
  exact ⟨F, g, (e1.held (ta' := ta) fun p hp => List.mem_cons_of_mem _ hp).push (wok_vw e1.nz (e1.tm _ List.mem_cons_self))⟩)
theorem ev_andV {a b : Bool} (h1 : EvD K te ro ka (.val (.bl a)) k1) (h2 : a = true → EvD K tf ro k1 (.val (.bl b)) k1) : EvD K (tAndV te tf) ro ka (.val (.bl (a && b))) k1 := fun B F0 ta sg H Q e q => h1 B F0 ta sg H _ e fun v H1 e1 => ⟨a, e1.tm_bl List.mem_cons_self, by
  have hv := e1.tm_bl List.mem_cons_self
  cases a with
  | true => exact h2 rfl B F0 ta sg H1 Q e1.pop q
  | false => subst hv; exact q _ H1 e1⟩
theorem ev_orV {a b : Bool} (h1 : EvD K te ro ka (.val (.bl a)) k1) (h2 : a = false → EvD K tf ro k1 (.val (.bl b)) k1) : EvD K (tOrV te tf) ro ka (.val (.bl (a || b))) k1 := fun B F0 ta sg H Q e q => h1 B F0 ta sg H _ e fun v H1 e1 => ⟨a, e1.tm_bl List.mem_cons_self, by
  have hv := e1.tm_bl List.mem_cons_self
  cases a with
  | true => subst hv; exact q _ H1 e1
  | false => exact h2 rfl B F0 ta sg H1 Q e1.pop q⟩
theorem ev_andV1 (h1 : EvD K te ro ka (.val (.bl true)) k1) (h2 : EvD K tf ro k1 w k2) : EvD K (tAndV te tf) ro ka w k2 := fun B F0 ta sg H Q e q => h1 B F0 ta sg H _ e fun v H1 e1 => ⟨true, e1.tm_bl List.mem_cons_self, h2 B F0 ta sg H1 Q e1.pop q⟩
theorem ev_andV0 (h1 : EvD K te ro ka (.val (.bl false)) k1) : EvD K (tAndV te tf) ro ka (.val (.bl false)) k1 := fun B F0 ta sg H Q e q => h1 B F0 ta sg H _ e fun v H1 e1 => ⟨false, e1.tm_bl List.mem_cons_self, by
  have hv := e1.tm_bl List.mem_cons_self
  subst hv
  exact q _ H1 e1⟩
theorem ev_notV {a : Bool} (h1 : EvD K te ro ka (.val (.bl a)) k1) : EvD K (tNotV te) ro ka (.val (.bl (!a))) k1 := fun B F0 ta sg H Q e q => h1 B F0 ta sg H _ e fun v H1 e1 => ⟨a, e1.tm_bl List.mem_cons_self, q _ _ (e1.pop.push_imm fun _ => rfl)⟩
theorem ev_ifT (h : EvT K tt ro ka true k1) (h1 : EvD K te ro k1 w k2) : EvD K (tIf tt te tf) ro ka w k2 := fun B F0 ta sg H Q e q => h B F0 ta sg H _ e fun H1 e1 => h1 B F0 ta sg H1 Q e1 q
theorem ev_ifF (h : EvT K tt ro ka false k1) (h1 : EvD K tf ro k1 w k2) : EvD K (tIf tt te tf) ro ka w k2 := fun B F0 ta sg H Q e q => h B F0 ta sg H _ e fun H1 e1 => h1 B F0 ta sg H1 Q e1 q
theorem ev_if {b : Bool} (h : EvT K tt ro ka b k1) (h1 : b = true → EvD K te ro k1 w k2) (h2 : b = false → EvD K tf ro k1 w k2) : EvD K (tIf tt te tf) ro ka w k2 := by
  cases b with
  | true => exact ev_ifT h (h1 rfl)
  | false => exact ev_ifF h (h2 rfl)

/-! ### slices' parts -/
theorem eo_none : EvO K tNoPart ro ka none ka := fun B F0 ta sg H Q e q => q H e
theorem eo_some {i : Int} (h : EvD K te ro ka (.val (.int i)) k1) : EvO K (tPart te) ro ka (some i) k1 := fun B F0 ta sg H Q e q => h B F0 ta sg H _ e fun v H1 e1 => ⟨i, e1.tm_int List.mem_cons_self, q H1 e1.pop⟩

/-! ### tuples, lists displayed -/
theorem rpl_of {B F : Hp} : ∀ {vs : List V} {ds : List D}, vs.length = ds.length → (∀ p ∈ vs.zip (ds.map W.val), WOk K B F p.1 p.2) → RpL K F ds vs
  | [], [], _, _ => rfl
  | [], _ :: _, h, _ => by cases h
  | _ :: _, [], h, _ => by cases h
  | v :: vs, d :: ds, hl, h => ⟨v, vs, rfl, h (v, .val d) List.mem_cons_self, rpl_of (by simpa using hl) fun p hp => h p (List.mem_cons_of_mem _ hp)⟩
theorem rpl_len {F : Hp} : ∀ {ds : List D} {vs : List V}, RpL K F ds vs → vs.length = ds.length
  | [], vs, h => by rw [show vs = [] from h]; rfl
  | d :: ds, vs, h => by
    obtain ⟨x, ys, rfl, _, h2⟩ := h
    rw [List.length_cons, List.length_cons, rpl_len h2]
theorem rpl_get {F : Hp} : ∀ {ds : List D} {vs : List V} {i : Nat} {d : D}, RpL K F ds vs → ds[i]? = some d → ∃ v, vs[i]? = some v ∧ Rp K F d v
  | [], _, _, _, _, e => by simp at e
  | d0 :: ds, vs, 0, d, h, e => by
    obtain ⟨x, ys, rfl, h1, _⟩ := h
    cases e
    exact ⟨x, rfl, h1⟩
  | d0 :: ds, vs, i + 1, d, h, e => by
    obtain ⟨x, ys, rfl, _, h2⟩ := h
    obtain ⟨v, q1, q2⟩ := rpl_get (i := i) (d := d) h2 (by simpa using e)
    exact ⟨v, by simpa using q1, q2⟩
theorem rpl_app {F : Hp} : ∀ {ds es : List D} {xs ys : List V}, RpL K F ds xs → RpL K F es ys → RpL K F (ds ++ es) (xs ++ ys)
  | [], es, xs, ys, h, h2 => by rw [show xs = [] from h]; exact h2
  | d :: ds, es, xs, ys, h, h2 => by
    obtain ⟨x, zs, rfl, h1, h3⟩ := h
    exact ⟨x, zs ++ ys, rfl, h1, rpl_app h3 h2⟩
theorem rpl_drop {F : Hp} : ∀ (n : Nat) {ds : List D} {xs : List V}, RpL K F ds xs → RpL K F (ds.drop n) (xs.drop n)
  | 0, _, _, h => h
  | n + 1, [], xs, h => by rw [show xs = [] from h]; rfl
  | n + 1, d :: ds, xs, h => by
    obtain ⟨x, ys, rfl, _, h2⟩ := h
    exact rpl_drop n h2
theorem rpl_take {F : Hp} : ∀ (n : Nat) {ds : List D} {xs : List V}, RpL K F ds xs → RpL K F (ds.take n) (xs.take n)
  | 0, _, _, _ => rfl
  | n + 1, [], xs, h => by rw [show xs = [] from h]; rfl
  | n + 1, d :: ds, xs, h => by
    obtain ⟨x, ys, rfl, h1, h2⟩ := h
    exact ⟨x, ys.take n, rfl, h1, rpl_take n h2⟩
theorem rpl_set {F : Hp} : ∀ {ds : List D} {xs : List V} (i : Nat) {d : D} {v : V}, RpL K F ds xs → Rp K F d v → RpL K F (ds.set i d) (xs.set i v)
  | [], xs, _, _, _, h, _ => by rw [show xs = [] from h]; rfl
  | d :: ds, xs, 0, _, _, h, q => by
    obtain ⟨x, ys, rfl, h1, h2⟩ := h
    exact ⟨_, ys, rfl, q, h2⟩
  | d :: ds, xs, i + 1, _, _, h, q => by
    obtain ⟨x, ys, rfl, h1, h2⟩ := h
    exact ⟨x, _, rfl, h1, rpl_set i h2 q⟩
theorem rpl_repl {F : Hp} {ds : List D} {xs : List V} (h : RpL K F ds xs) : ∀ n : Nat, RpL K F (List.replicate n ds).flatten (List.replicate n xs).flatten
  | 0 => rfl
  | n + 1 => by
    rw [List.replicate_succ, List.replicate_succ, List.flatten_cons, List.flatten_cons]
    exact rpl_app h (rpl_repl h n)
theorem ev_tup {ds : List D} (h : EvA K tr ro ka (ds.map W.val) k1) (hl : ds.length ≤ 100000 := by decide) : EvD K (tTup tr) ro ka (.val (.tup ds)) k1 := fun B F0 ta sg H Q e q => h B F0 ta sg H _ e fun vs H1 hvl e1 => by
  rw [List.length_map] at hvl
  refine ⟨Nat.le_trans (by rw [hvl]; exact hl) (by decide : 100000 ≤ sizeLine), fun p hp => q _ _ ?_⟩
  obtain ⟨F, g, e1⟩ := e1
  obtain ⟨e2, g2⟩ := e1.lay (o := .tup vs) hp rfl
  refine ⟨_, g.trans g2, (e2.held (ta' := ta) fun p hp => List.mem_append_right _ hp).push ⟨p, vs, rfl, .inl (.inl upd_same), ?_⟩⟩
  exact RpL.mono g2.sub.exz e1.nz _ _ (rpl_of hvl fun z hz => e1.tm z (List.mem_append_left _ hz))
theorem evn_lst {ds : List D} (h : EvA K tr ro ka (ds.map W.val) k1) (hl : ds.length ≤ 100000 := by decide) : EvN K (tLst tr) ro ka (.lst ds) k1 := fun B F0 ta sg H Q e q => h B F0 ta sg H _ e fun vs H1 hvl e1 => by
  rw [List.length_map] at hvl
  refine ⟨Nat.le_trans (by rw [hvl]; exact hl) (by decide : 100000 ≤ sizeLine), fun p hp => q _ _ ?_⟩
  obtain ⟨F, g, e1⟩ := e1
  refine ⟨F, g, (e1.cell (o := .lst vs) hp (n := .lst ds) ⟨vs, upd_same, rpl_of hvl fun z hz => e1.tm z (List.mem_append_left _ hz)⟩).held fun p hp => List.mem_append_right _ hp⟩
end
end DL

/-! DC: operations by data (own work). -/
namespace DL
open PySem L2

/-! ### universal operators: each of the ways that this text takes -/
abbrev rAddI : R2 := rI0 fun i j => .int (i + j)
abbrev rAddS : R2 := fun x y H Q => ∃ i j, x = .str i ∧ y = .str j ∧ i.length + j.length ≤ sizeLine ∧ Q (.str (i ++ j)) H
/-- list + list, locked or not -/
def rCatR : R2 := fun x y H Q => ∃ l b xs zs, x = .ref l ∧ y = .ref b ∧ Rd H l (.lst xs) ∧ Rd H b (.lst zs) ∧ xs.length + zs.length ≤ sizeLine ∧ ∀ p, H p = none → Q (.ref p) (upd H p (.lst (xs ++ zs)))
section
variable {X : Cx}
theorem op_catR : OpR X (binaryOp .Add) rCatR := fun pins s sg H x y v u Q I rx ry h => by
  obtain ⟨l, b, xs, zs, ex, ey, h1, h2, hz, q⟩ := h
  subst ex ey
  cases rx
  cases ry
  have ⟨_, us, _, r, e⟩ := h1.ok I.hok
  have ⟨_, ws, _, r2, e2⟩ := h2.ok I.hok
  have lens : us.length + ws.length ≤ sizeLine := by rw [← r.length, ← r2.length]; exact hz
  refine PySem.P.add_list e e2 ?_ (show us.toArray.size + ws.toArray.size ≤ _ by rw [us.size_toArray, ws.size_toArray]; exact lens)
  rw [List.append_toArray]
  exact ⟨.ref _, _, I.lnew (t' := s.toks) (r.append r2) (xs.length_append ▸ hz), rfl, q _ I.fresh⟩
def rAddU (K : PySem.W.Frag) : R2 := fun x y H Q => rAddI x y H Q ∨ (fun x y H Q => rAddS x y H Q ∨ (fun x y H Q => rCatR x y H Q ∨ rCatA K x y H Q) x y H Q) x y H Q
theorem op_addU : OpR X (binaryOp .Add) (rAddU X.K) := op_add.or (op_add_str.or (op_catR.or op_catA))
/-- s * n for texts -/
abbrev rSubI : R2 := rI0 fun i j => .int (i - j)
abbrev rPowI : R2 := rI CPow fun i j => .int (i ^ j.toNat)
abbrev rModI : R2 := rI (fun _ j => 0 < j) fun i j => .int (i % j)
abbrev rDivI : R2 := rI CDiv fun i j => .int (i / j)
abbrev rLtI : R2 := rI0 fun i j => .bl (decide (i < j))
abbrev rGtI : R2 := rI0 fun i j => .bl (decide (j < i))
abbrev rGeI : R2 := rI0 fun i j => .bl (decide (j ≤ i))
end

section
variable {K : PySem.W.Frag} {B F0 : Hp} {ro : Ro} {ka k1 k2 k3 : Cells} {ta : List (V × W)} {sg : L2.St} {H : Hp} {te tf tg : TE} {tl th : TO} {tr : TA} {w x y z : W} {n : Nd} {r : R2}

/-! ### numbers -/
theorem rv_I0 {g : Int → Int → V} {i j : Int} {d : D} (h : ∀ F, Rp K F d (g i j)) : RvD K (rI0 g) ka (.val (.int i)) (.val (.int j)) (.val d) := fun B F0 ro ta sg H u v Q e h1 h2 q =>
  ⟨i, j, e.tm_int h1, e.tm_int h2, q _ _ (e.push_imm fun F => h F)⟩
theorem rv_I {C : Int → Int → Prop} {g : Int → Int → V} {i j : Int} {d : D} (c : C i j) (h : ∀ F, Rp K F d (g i j)) : RvD K (rI C g) ka (.val (.int i)) (.val (.int j)) (.val d) := fun B F0 ro ta sg H u v Q e h1 h2 q =>
  ⟨i, j, e.tm_int h1, e.tm_int h2, c, q _ _ (e.push_imm fun F => h F)⟩
theorem rv_addI {i j : Int} : RvD K (rAddU K) ka (.val (.int i)) (.val (.int j)) (.val (.int (i + j))) := rvd_l (rv_I0 fun _ => rfl)
theorem rv_addS {i j : Str} (h : i.length + j.length ≤ 100000) : RvD K (rAddU K) ka (.val (.str i)) (.val (.str j)) (.val (.str (i ++ j))) := rvd_r (rvd_l fun B F0 ro ta sg H u v Q e h1 h2 q =>
  ⟨i, j, e.tm_str h1, e.tm_str h2, Nat.le_trans h (by decide), q _ _ (e.push_imm fun F => rfl)⟩)
theorem rv_sub {i j : Int} : RvD K rSubI ka (.val (.int i)) (.val (.int j)) (.val (.int (i - j))) := rv_I0 fun _ => rfl
theorem rv_pow {i j : Int} (c : CPow i j) : RvD K rPowI ka (.val (.int i)) (.val (.int j)) (.val (.int (i ^ j.toNat))) := rv_I c fun _ => rfl
theorem rv_mod {i j : Int} (c : 0 < j) : RvD K rModI ka (.val (.int i)) (.val (.int j)) (.val (.int (i % j))) := rv_I c fun _ => rfl
theorem rv_div {i j : Int} (c : CDiv i j) : RvD K rDivI ka (.val (.int i)) (.val (.int j)) (.val (.int (i / j))) := rv_I c fun _ => rfl
theorem rv_lt {i j : Int} : RvD K rLtI ka (.val (.int i)) (.val (.int j)) (.val (.bl (decide (i < j)))) := rv_I0 fun _ => rfl
theorem rv_gt {i j : Int} : RvD K rGtI ka (.val (.int i)) (.val (.int j)) (.val (.bl (decide (j < i)))) := rv_I0 fun _ => rfl
theorem rv_ge {i j : Int} : RvD K rGeI ka (.val (.int i)) (.val (.int j)) (.val (.bl (decide (j ≤ i)))) := rv_I0 fun _ => rfl
/-! ### sequences: what stands behind a value -/
/-- w is a sequence of ds: t: a tuple; b: viewed -/
inductive Lk (ka : Cells) : W → Bool → List D → Bool → Prop where
  | vl {ds} : Lk ka (.val (.lst ds)) false ds false
  | vt {ds} : Lk ka (.val (.tup ds)) true ds false
  | wl {ds} : Lk ka (.vw (.lst ds)) false ds true
  | wt {ds} : Lk ka (.vw (.tup ds)) true ds true
  | ce {a ds} (j : Nat) (h : ka[j]? = some (a, .lst ds)) : Lk ka (.val (.adr a)) false ds false
def SqB (K : PySem.W.Frag) (t : Bool) (H : Hp) (a : Addr) (xs : List V) : Prop := if t then SqT K H a xs else Rd H a (.lst xs)
theorem SqB.sq {t : Bool} {a : Addr} {xs : List V} (h : SqB K t H a xs) : SqL K H a xs ∨ SqT K H a xs := by
  cases t with
  | true => exact .inr h
  | false => exact .inl (.inl h)
/-- what a sequence's value is, its items over a heap G that H holds -/
theorem Lk.get {F : Hp} {t b : Bool} {ds : List D} {v : V} (l : Lk ka w t ds b) (e : EnF K B F ro ka ta sg H) (h : WOk K B F v w) :
    ∃ a xs, v = .ref a ∧ SqB K t H a xs ∧ RpL K (if b then uni B F else F) ds xs := by
  cases l with
  | vl =>
    obtain ⟨a, xs, rfl, h1, h2⟩ := h
    exact ⟨a, xs, rfl, e.fz.rd e.nz h1, h2⟩
  | vt =>
    obtain ⟨a, xs, rfl, h1, h2⟩ := h
    exact ⟨a, xs, rfl, sqT_mono e.fz e.nz h1, h2⟩
  | wl =>
    obtain ⟨a, xs, rfl, h1, h2⟩ := h
    exact ⟨a, xs, rfl, (uni_exz e.fz e.fr).rd (uni_nz e.nz) h1, h2⟩
  | wt =>
    obtain ⟨a, xs, rfl, h1, h2⟩ := h
    exact ⟨a, xs, rfl, sqT_mono (uni_exz e.fz e.fr) (uni_nz e.nz) h1, h2⟩
  | @ce a ds j hj =>
    obtain ⟨_, _, xs, h1, h2⟩ := e.ce _ (List.mem_of_getElem? hj)
    have hv : v = .ref a := h
    exact ⟨a, xs, hv, .inl h1, h2⟩
theorem Lk.at {F : Hp} {t b : Bool} {ds : List D} {v : V} (l : Lk ka w t ds b) (e : EnF K B F ro ka ta sg H) (h : WOk K B F v w) :
    ∃ a xs, v = .ref a ∧ (SqL K H a xs ∨ SqT K H a xs) ∧ RpL K (if b then uni B F else F) ds xs :=
  let ⟨a, xs, h1, h2, h3⟩ := l.get e h
  ⟨a, xs, h1, h2.sq, h3⟩

/-! ### len -/
/-- len: sequences, texts, dicts -/
def rLenU (K : PySem.W.Frag) : List V → Hp → VK → Prop := fun xs H Q => (fun xs H Q => ∃ p ys, xs = [.ref p] ∧ (SqL K H p ys ∨ SqT K H p ys) ∧ Q (.int ys.length) H) xs H Q ∨ (fun xs H Q => ∃ z, xs = [.str z] ∧ z.length ≤ sizeLine ∧ Q (.int z.length) H) xs H Q
theorem call_lenU {X : Cx} : CallR X (.builtin "len") (rLenU X.K) := call_len_seq.or call_len_str
theorem zip_one {us : List V} {x : W} (h : us.length = [x].length) (hm : ∀ p ∈ us.zip [x], p ∈ ta) : ∃ u, us = [u] ∧ (u, x) ∈ ta := by
  match us, h with
  | [u], _ => exact ⟨u, rfl, hm _ List.mem_cons_self⟩
theorem zip_two {us : List V} {x y : W} (h : us.length = [x, y].length) (hm : ∀ p ∈ us.zip [x, y], p ∈ ta) : ∃ u v, us = [u, v] ∧ (u, x) ∈ ta ∧ (v, y) ∈ ta := by
  match us, h with
  | [u, v], _ => exact ⟨u, v, rfl, hm _ List.mem_cons_self, hm _ (List.mem_cons_of_mem _ List.mem_cons_self)⟩
theorem rc_len {t b : Bool} {ds : List D} (l : Lk ka w t ds b) : RcD K (rLenU K) ka [w] (.val (.int ds.length)) := rcd_l fun B F0 ro ta sg H us Q e hl hm q => by
  obtain ⟨u, rfl, hu⟩ := zip_one hl hm
  obtain ⟨F, g, e⟩ := e
  obtain ⟨a, xs, rfl, h1, h2⟩ := l.at e (e.tm _ hu)
  refine ⟨a, xs, rfl, h1, ?_⟩
  rw [rpl_len h2]
  exact q _ _ ⟨F, g, e.push rfl⟩
theorem rc_lenS {s : Str} (h : s.length ≤ 100000) : RcD K (rLenU K) ka [.val (.str s)] (.val (.int s.length)) := rcd_r fun B F0 ro ta sg H us Q e hl hm q => by
  obtain ⟨u, rfl, hu⟩ := zip_one hl hm
  have hv := e.tm_str hu
  subst hv
  exact ⟨s, rfl, Nat.le_trans h (by decide), q _ _ (e.push_imm fun _ => rfl)⟩

/-! ### items -/
theorem atI_map {α β : Type} {f : α → β → Prop} {xs : List α} {ys : List β} (hl : xs.length = ys.length) {i : Int} {y : β} (h : atI ys i = some y) (hf : ∀ (j : Nat) y, ys[j]? = some y → ∃ x, xs[j]? = some x ∧ f x y) : ∃ x, atI xs i = some x ∧ f x y := by
  unfold atI at h ⊢
  rw [hl]
  cases q : ixN ys.length i with
  | none => rw [q] at h; cases h
  | some j =>
    rw [q] at h
    exact hf j y h
theorem rv_ix {t b : Bool} {ds : List D} {i : Int} {d : D} (l : Lk ka w t ds b) (hd : atI ds i = some d) : RvD K (rIx K) ka w (.val (.int i)) (part b d) := fun B F0 ro ta sg H u v Q e h1 h2 q => by
  have hv := e.tm_int h2
  subst hv
  obtain ⟨F, g, e⟩ := e
  obtain ⟨a, xs, rfl, s1, s2⟩ := l.at e (e.tm _ h1)
  obtain ⟨z, hz, rz⟩ := atI_map (f := fun x d => Rp K (if b then uni B F else F) d x) (rpl_len s2) hd fun j y hy => rpl_get s2 hy
  have fin := q z H ⟨F, g, e.push (wok_part b rz)⟩
  rcases s1 with s1 | s1
  · exact .inl ⟨a, xs, i, z, rfl, rfl, s1, hz, fin⟩
  · exact .inr (.inl ⟨a, xs, i, z, rfl, rfl, s1, hz, fin⟩)
theorem rv_ixS {s : Str} {i : Int} {c : Nat} (hs : s.length ≤ 100000) (hc : atI s.cps.toList i = some c) : RvD K (rIx K) ka (.val (.str s)) (.val (.int i)) (.val (.str ⟨#[c]⟩)) := fun B F0 ro ta sg H u v Q e h1 h2 q =>
  .inr (.inr ⟨s, i, c, e.tm_str h1, e.tm_int h2, Nat.le_trans hs (by decide), hc, q _ _ (e.push_imm fun _ => rfl)⟩)

/-! ### slices -/
abbrev rSlU (K : PySem.W.Frag) : V → Option Int → Option Int → Hp → VK → Prop := fun x lo hi H Q => rSlL K x lo hi H Q ∨ (fun x lo hi H Q => rSlA K x lo hi H Q ∨ rSlS x lo hi H Q) x lo hi H Q
theorem sl_U {X : Cx} : SlR X (rSlU X.K) := sl_list.or (sl_tupA.or sl_str)
def cutD {α : Type} (xs : List α) (lo hi : Option Int) : List α := (xs.drop (HT.sIx xs.length 0 lo)).take (HT.sIx xs.length xs.length hi - HT.sIx xs.length 0 lo)
theorem rpl_cut {F : Hp} {ds : List D} {xs : List V} (h : RpL K F ds xs) (lo hi : Option Int) : RpL K F (cutD ds lo hi) (cutV xs lo hi) := by
  unfold cutD cutV
  rw [rpl_len h]
  exact rpl_take _ (rpl_drop _ h)
theorem evn_sl {lo hi : Option Int} {ds : List D} (ha : EvD K te ro ka w k1) (h1 : EvO K tl ro k1 lo k2) (h2 : EvO K th ro k2 hi k3) (l : Lk k3 w false ds false) : EvN K (tSl (rSlU K) te tl th) ro ka (.lst (cutD ds lo hi)) k3 := fun B F0 ta sg H Q e q =>
  ha B F0 ta sg H _ e fun u H1 e1 => h1 B F0 _ sg H1 _ e1 fun H2 e2 => h2 B F0 _ sg H2 _ e2 fun H3 e3 => by
    obtain ⟨F, g, e3⟩ := e3
    obtain ⟨a, xs, rfl, s1, s2⟩ := l.get e3 (e3.tm _ List.mem_cons_self)
    refine .inl ⟨a, xs, rfl, .inl s1, fun p hp => q p _ ?_⟩
    exact ⟨F, g, (e3.cell (o := .lst (cutV xs lo hi)) hp (n := .lst (cutD ds lo hi)) ⟨_, upd_same, rpl_cut s2 lo hi⟩).held fun p hp => List.mem_cons_of_mem _ hp⟩
theorem ev_slT {lo hi : Option Int} {ds : List D} (ha : EvD K te ro ka (.val (.tup ds)) k1) (h1 : EvO K tl ro k1 lo k2) (h2 : EvO K th ro k2 hi k3) : EvD K (tSl (rSlU K) te tl th) ro ka (.val (.tup (cutD ds lo hi))) k3 := fun B F0 ta sg H Q e q =>
  ha B F0 ta sg H _ e fun u H1 e1 => h1 B F0 _ sg H1 _ e1 fun H2 e2 => h2 B F0 _ sg H2 _ e2 fun H3 e3 => by
    obtain ⟨F, g, e3⟩ := e3
    obtain ⟨a, xs, rfl, s1, s2⟩ := Lk.vt.get e3 (e3.tm _ List.mem_cons_self)
    have hk := e3.tm _ List.mem_cons_self
    refine .inr (.inl ⟨a, xs, rfl, s1, fun hw => q _ _ ⟨F, g, (e3.held (ta' := ta) fun p hp => List.mem_cons_of_mem _ hp).push ?_⟩, fun _ p hp => q (.ref p) _ ?_⟩)
    · have e0 : cutD ds lo hi = ds := by
        unfold cutD
        rw [← rpl_len s2, hw.1, hw.2]
        simp
        exact List.take_of_length_le (by rw [rpl_len s2]; exact Nat.le_refl _)
      rw [e0]
      exact hk
    · obtain ⟨e4, g4⟩ := e3.lay (o := .tup (cutV xs lo hi)) hp rfl
      exact ⟨_, g.trans g4, (e4.held (ta' := ta) fun p hp => List.mem_cons_of_mem _ hp).push ⟨p, _, rfl, .inl (.inl upd_same), RpL.mono g4.sub.exz e3.nz _ _ (rpl_cut s2 lo hi)⟩⟩
theorem ev_slS {lo hi : Option Int} {s : Str} (ha : EvD K te ro ka (.val (.str s)) k1) (h1 : EvO K tl ro k1 lo k2) (h2 : EvO K th ro k2 hi k3) (hs : s.length ≤ 100000) : EvD K (tSl (rSlU K) te tl th) ro ka (.val (.str (cutS s lo hi))) k3 := fun B F0 ta sg H Q e q =>
  ha B F0 ta sg H _ e fun u H1 e1 => h1 B F0 _ sg H1 _ e1 fun H2 e2 => h2 B F0 _ sg H2 _ e2 fun H3 e3 =>
    .inr (.inr ⟨s, e3.tm_str List.mem_cons_self, Nat.le_trans hs (by decide), q _ _ (e3.pop.push_imm fun _ => rfl)⟩)

/-! ### list + list, tuple + tuple -/
theorem rvn_cat {b1 b2 : Bool} {ds es : List D} (l1 : Lk ka x false ds false) (l2 : Lk ka y false es false) (hz : ds.length + es.length ≤ 100000) : RvN K (rAddU K) ka x y (.lst (ds ++ es)) :=
  rvn_r (rvn_r (rvn_l fun B F0 ro ta sg H u v Q e h1 h2 q => by
    obtain ⟨F, g, e⟩ := e
    obtain ⟨a, xs, rfl, s1, r1⟩ := l1.get e (e.tm _ h1)
    obtain ⟨b, ys, rfl, s2, r2⟩ := l2.get e (e.tm _ h2)
    refine ⟨a, b, xs, ys, rfl, rfl, s1, s2, by rw [rpl_len r1, rpl_len r2]; exact Nat.le_trans hz (by decide), fun p hp => q p _ ?_⟩
    exact ⟨F, g, e.cell (o := .lst (xs ++ ys)) hp (n := .lst (ds ++ es)) ⟨_, upd_same, rpl_app r1 r2⟩⟩))
end
end DL

/-! DS: statements, loops, contracts by data (own work). -/
namespace DL
open PySem L2

section
variable (K : PySem.W.Frag)
/-- from such a state P holds -/
def Gp (B F0 : Hp) (ta : List (V × W)) (P : L2.St → Hp → Prop) (ro : Ro) (ka : Cells) : Prop := ∀ sg H, En K B F0 ro ka ta sg H → P sg H
/-- how a call ends: with data, or an exception of a class, its own fields -/
inductive Out where
  | ret (d : D) | exc (C : Addr) (fs : List (Str × D)) | exc0 (C : Addr)
abbrev Ct := List W → Cells → (Out → Cells → Prop) → Prop
/-- what is wanted at a return -/
def RtOk (B F0 : Hp) (out : Out → Cells → Prop) (rt : VK) : Prop := ∀ d ka v H, out (.ret d) ka → En K B F0 [] ka [(v, .val d)] [] H → rt v H
def RxOk (B F0 : Hp) (out : Out → Cells → Prop) (E : XK) : Prop :=
  (∀ C fs ka dx H, out (.exc C fs) ka → En K B F0 [] (ka ++ [(dx, .xd fs)]) [] [] H → E (.ref C) (some dx) H) ∧
  ∀ C ka H, out (.exc0 C) ka → En K B F0 [] ka [] [] H → E (.ref C) none H
/-- the promise of a contract -/
def spC (C : Ct) : Sp := fun vs H Q E => ∃ B F args ka out, C args ka out ∧ vs.length = args.length ∧ En K B F [] ka (vs.zip args) [] H ∧ RtOk K B F out Q ∧ RxOk K B F out E
end

section
variable {K : PySem.W.Frag} {B F0 : Hp} {ro : Ro} {ka k1 k2 k3 : Cells} {ta : List (V × W)} {sg : L2.St} {H : Hp} {te tf tg : TE} {tl th : TO} {tr : TA} {tt : TT} {w x y z : W} {n : Nd} {r : R2} {De : Ends} {t u : TS} {P : L2.St → Hp → Prop}
theorem En.gp (e : En K B F0 ro ka ta sg H) (h : Gp K B F0 ta P ro ka) : P sg H := h sg H e
theorem En.set (e : En K B F0 ro ka ((v, w) :: ta) sg H) (i : Nat) : En K B F0 (ro.set i (some w)) ka ta (sg.set i (some v)) H :=
  let ⟨F, g, q⟩ := e
  ⟨F, g, (q.set (q.tm _ List.mem_cons_self) i).held fun _ h => List.mem_cons_of_mem _ h⟩
theorem En.setA (e : En K B F0 ro ka ta sg H) (i : Nat) (a : Addr) : En K B F0 (ro.set i (some (.val (.adr a)))) ka ta (sg.set i (some (.ref a))) H :=
  let ⟨F, g, q⟩ := e
  ⟨F, g, q.set (w := .val (.adr a)) rfl i⟩
theorem g_next (h : Gp K B F0 ta De.nx ro ka) : Gp K B F0 ta (tNext De) ro ka := h
theorem g_asg {i : Nat} (h : EvD K te ro ka w k1) (k : Gp K B F0 ta De.nx (ro.set i (some w)) k1) : Gp K B F0 ta (tAsg te (gName i) De) ro ka := fun sg H e => h B F0 ta sg H _ e fun v H1 e1 => k _ _ (e1.set i)
theorem g_asgN {i : Nat} (h : EvN K te ro ka n k1) (k : ∀ a, Gp K B F0 ta De.nx (ro.set i (some (.val (.adr a)))) (k1 ++ [(a, n)])) : Gp K B F0 ta (tAsg te (gName i) De) ro ka := fun sg H e => h B F0 ta sg H _ e fun a H1 e1 => k a _ _ (e1.setA i a)
theorem q_asg {i : Nat} (h : EvD K te ro ka w k1) (k : Gp K B F0 ta (u De) (ro.set i (some w)) k1) : Gp K B F0 ta (tSeq (tAsg te (gName i)) u De) ro ka := g_asg (De := { De with nx := u De }) h k
theorem q_asgN {i : Nat} (h : EvN K te ro ka n k1) (k : ∀ a, Gp K B F0 ta (u De) (ro.set i (some (.val (.adr a)))) (k1 ++ [(a, n)])) : Gp K B F0 ta (tSeq (tAsg te (gName i)) u De) ro ka := g_asgN (De := { De with nx := u De }) h k
theorem g_drop (h : EvD K te ro ka w k1) (k : Gp K B F0 ta De.nx ro k1) : Gp K B F0 ta (tDrop te De) ro ka := fun sg H e => h B F0 ta sg H _ e fun v H1 e1 => k _ _ e1.pop
theorem q_drop (h : EvD K te ro ka w k1) (k : Gp K B F0 ta (u De) ro k1) : Gp K B F0 ta (tSeq (tDrop te) u De) ro ka := g_drop (De := { De with nx := u De }) h k
theorem g_if {b : Bool} {u : TS} (h : EvT K tt ro ka b k1) (h1 : b = true → Gp K B F0 ta (t De) ro k1) (h2 : b = false → Gp K B F0 ta (u De) ro k1) : Gp K B F0 ta (tIfS tt t u De) ro ka := fun sg H e => h B F0 ta sg H _ e fun H1 e1 => by
  cases b with
  | true => exact h1 rfl _ _ e1
  | false => exact h2 rfl _ _ e1
/-- an if without else -/
theorem q_when {b : Bool} (h : EvT K tt ro ka b k1) (h1 : b = true → Gp K B F0 ta (t { De with nx := u De }) ro k1) (h2 : b = false → Gp K B F0 ta (u De) ro k1) : Gp K B F0 ta (tSeq (tIfS tt t tNext) u De) ro ka := g_if (De := { De with nx := u De }) h h1 h2
theorem En.leave (e : En K B F0 ro ka ((v, w) :: ta) sg H) : En K B F0 [] ka [(v, w)] [] H :=
  let ⟨F, g, q⟩ := e
  ⟨F, g, (q.frame (ro' := []) (sg' := []) rfl fun i w h => by simp at h).held fun p hp => by
    have : p = (v, w) := by simpa using hp
    rw [this]
    exact List.mem_cons_self⟩
theorem g_ret {out : Out → Cells → Prop} {d : D} {De : Ends} (hr : RtOk K B F0 out De.rt) (h : EvD K te ro ka (.val d) k1) (o : out (.ret d) k1) : Gp K B F0 ta (tRet te De) ro ka := fun sg H e => h B F0 ta sg H _ e fun v H1 e1 => hr d k1 v H1 o e1.leave
/-- the body's end without a return -/
theorem g_end {out : Out → Cells → Prop} {Q : VK} (hr : RtOk K B F0 out Q) (o : out (.ret .non) ka) : Gp K B F0 ta (fun _ H' => Q .non H') ro ka := fun sg H e => hr .non ka .non H o ((e.push_imm (v := .non) (w := .val .non) fun _ => rfl).leave)
/-! ### cells changed -/
theorem EnF.rd_lst {F : Hp} (e : EnF K B F ro ka ta sg H) {j : Nat} {a : Addr} {ds : List D} (hj : ka[j]? = some (a, .lst ds)) : ∃ xs, H a = some (.lst xs) ∧ RpL K F ds xs := (e.ce _ (List.mem_of_getElem? hj)).2.2
theorem g_app {j0 j : Nat} {a : Addr} {ds0 ds : List D} {d : D} {De : Ends} (ho : EvD K te ro ka (.val (.adr a)) k1) (h0 : k1[j0]? = some (a, .lst ds0)) (he : EvD K tf ro k1 (.val d) k2) (hj : k2[j]? = some (a, .lst ds)) (hz : ds.length < 100000)
    (k : Gp K B F0 ta De.nx ro (k2.set j (a, .lst (ds ++ [d])))) : Gp K B F0 ta (tDrop (tBM K "list" rAppend te (tCons tf tNil)) De) ro ka := fun sg H e => ho B F0 ta sg H _ e fun u H1 e1 => by
  have hu := e1.tm_adr List.mem_cons_self
  subst hu
  refine ⟨?_, he B F0 _ sg H1 _ e1 fun v H2 e2 => ?_⟩
  · obtain ⟨F, g, e1⟩ := e1
    obtain ⟨xs, hx, _⟩ := e1.rd_lst h0
    exact .inl ⟨rfl, xs, .inl (.inl hx)⟩
  · obtain ⟨F, g, e2⟩ := e2
    obtain ⟨xs, hx, rx⟩ := e2.rd_lst hj
    have hv := e2.tm _ List.mem_cons_self
    refine ⟨a, xs, v, rfl, rfl, hx, by rw [rpl_len rx]; exact Nat.lt_of_lt_of_le hz (by decide), k _ _ ⟨F, g, ?_⟩⟩
    exact (e2.write (o := .lst (xs ++ [v])) (n' := .lst (ds ++ [d])) hj ⟨_, upd_same, rpl_app rx ⟨v, [], rfl, hv, rfl⟩⟩).held fun p hp => List.mem_cons_of_mem _ (List.mem_cons_of_mem _ hp)
theorem q_app {j0 j : Nat} {a : Addr} {ds0 ds : List D} {d : D} {De : Ends} (ho : EvD K te ro ka (.val (.adr a)) k1) (h0 : k1[j0]? = some (a, .lst ds0)) (he : EvD K tf ro k1 (.val d) k2) (hj : k2[j]? = some (a, .lst ds)) (hz : ds.length < 100000)
    (k : Gp K B F0 ta (u De) ro (k2.set j (a, .lst (ds ++ [d])))) : Gp K B F0 ta (tSeq (tDrop (tBM K "list" rAppend te (tCons tf tNil))) u De) ro ka := g_app (De := { De with nx := u De }) ho h0 he hj hz k
/-- xs[i] = v -/
theorem g_seti {j : Nat} {a : Addr} {ds : List D} {d : D} {i : Int} {ix : Nat} {De : Ends} (he : EvD K tf ro ka (.val d) k1) (ho : EvD K te ro k1 (.val (.adr a)) k2) (hi : EvD K tg ro k2 (.val (.int i)) k3) (hj : k3[j]? = some (a, .lst ds)) (hx : ixN ds.length i = some ix)
    (k : Gp K B F0 ta De.nx ro (k3.set j (a, .lst (ds.set ix d)))) : Gp K B F0 ta (tAsg tf (gSub te tg rSetL) De) ro ka := fun sg H e => he B F0 ta sg H _ e fun v H1 e1 => ho B F0 _ sg H1 _ e1 fun u H2 e2 => hi B F0 _ sg H2 _ e2 fun i' H3 e3 => by
  have hu := e3.tm_adr (List.mem_cons_of_mem _ List.mem_cons_self)
  have hi' := e3.tm_int List.mem_cons_self
  subst hu hi'
  obtain ⟨F, g, e3⟩ := e3
  obtain ⟨xs, hxs, rx⟩ := e3.rd_lst hj
  have hv := e3.tm (v, .val d) (List.mem_cons_of_mem _ (List.mem_cons_of_mem _ List.mem_cons_self))
  refine ⟨a, xs, i, ix, rfl, rfl, hxs, by rw [rpl_len rx]; exact hx, k _ _ ⟨F, g, ?_⟩⟩
  exact (e3.write (o := .lst (xs.set ix v)) (n' := .lst (ds.set ix d)) hj ⟨_, upd_same, rpl_set ix rx hv⟩).held fun p hp => List.mem_cons_of_mem _ (List.mem_cons_of_mem _ (List.mem_cons_of_mem _ hp))
theorem q_seti {j : Nat} {a : Addr} {ds : List D} {d : D} {i : Int} {ix : Nat} {De : Ends} (he : EvD K tf ro ka (.val d) k1) (ho : EvD K te ro k1 (.val (.adr a)) k2) (hi : EvD K tg ro k2 (.val (.int i)) k3) (hj : k3[j]? = some (a, .lst ds)) (hx : ixN ds.length i = some ix)
    (k : Gp K B F0 ta (u De) ro (k3.set j (a, .lst (ds.set ix d)))) : Gp K B F0 ta (tSeq (tAsg tf (gSub te tg rSetL)) u De) ro ka := g_seti (De := { De with nx := u De }) he ho hi hj hx k

/-! ### what is walked -/
/-- wi walks through the items ws, while C holds of the cells -/
def EvI (K : PySem.W.Frag) (wi : TI) (ro : Ro) (ka : Cells) (ws : List W) (C : Cells → Prop) (ka' : Cells) : Prop := ∀ B F0 ta sg H (R : It → Hp → Prop), En K B F0 ro ka ta sg H →
  (∀ J ta' H', (∀ p ∈ ta, p ∈ ta') → En K B F0 ro ka' ta' sg H' →
    (∀ i w ro2 ka2 ta2 sg2 H2, ws[i]? = some w → C ka2 → (∀ p ∈ ta', p ∈ ta2) → En K B F0 ro2 ka2 ta2 sg2 H2 → J.go i H2 ∧ ∀ x H3, J.yld i H2 x H3 → En K B F0 ro2 ka2 ((x, w) :: ta2) sg2 H3) →
    (∀ i ro2 ka2 ta2 sg2 H2, ws.length ≤ i → C ka2 → (∀ p ∈ ta', p ∈ ta2) → En K B F0 ro2 ka2 ta2 sg2 H2 → J.stop i H2) → R J H') → wi sg H R
/-- the word between two turns -/
def Jp (K : PySem.W.Frag) (B F0 : Hp) (ta : List (V × W)) (Inv : Ro → Cells → Prop) : L2.St → Hp → Prop := fun sg H => ∃ ro ka, Inv ro ka ∧ En K B F0 ro ka ta sg H
theorem g_jp {Inv : Ro → Cells → Prop} (h : Inv ro ka) : Gp K B F0 ta (Jp K B F0 ta Inv) ro ka := fun sg H e => ⟨ro, ka, h, e⟩
theorem g_for {wi : TI} {ws : List W} {C : Cells → Prop} {g : TG} {tb : TS} {De : Ends} (h : EvI K wi ro ka ws C k1) (Inv : Nat → Ro → Cells → Prop) (h0 : Inv 0 ro k1) (hC : ∀ i ro2 ka2, Inv i ro2 ka2 → C ka2)
    (hs : ∀ i w ro2 ka2, ws[i]? = some w → Inv i ro2 ka2 → ∀ ta', Gp K B F0 ta' (fun sg H => ∀ x, En K B F0 ro2 ka2 ((x, w) :: ta') sg H → g x sg H fun sg2 H2 => tb { De with nx := Jp K B F0 ta' (Inv (i + 1)), ct := Jp K B F0 ta' (Inv (i + 1)), bk := De.nx } sg2 H2) ro2 ka2)
    (hd : ∀ ro2 ka2 ta', Inv ws.length ro2 ka2 → (∀ p ∈ ta, p ∈ ta') → Gp K B F0 ta' De.nx ro2 ka2) : Gp K B F0 ta (tFor wi g tb De) ro ka := fun sg H e =>
  h B F0 ta sg H _ e fun J ta' H1 hta e1 hgo hst => by
    refine ⟨fun i m sg H => m = ws.length - i ∧ i ≤ ws.length ∧ Jp K B F0 ta' (Inv i) sg H, ⟨ws.length, by simp, Nat.zero_le _, ro, k1, h0, e1⟩, ?_⟩
    rintro i m sg2 H2 ⟨rfl, hi, ro2, ka2, inv, e2⟩
    by_cases hlt : i < ws.length
    · obtain ⟨g1, g2⟩ := hgo i ws[i] ro2 ka2 ta' sg2 H2 (List.getElem?_eq_getElem hlt) (hC i ro2 ka2 inv) (fun p hp => hp) e2
      refine .inr ⟨g1, Jp K B F0 ta' (Inv (i + 1)), fun sg' H' q => ⟨ws.length - (i + 1), by omega, rfl, hlt, q⟩, fun x H3 y => ?_⟩
      have e3 := g2 x H3 y
      exact hs i ws[i] ro2 ka2 (List.getElem?_eq_getElem hlt) inv ta' sg2 H3 e3.pop x e3
    · have ei : i = ws.length := by omega
      subst ei
      exact .inl ⟨hst _ ro2 ka2 ta' sg2 H2 (Nat.le_refl _) (hC _ ro2 ka2 inv) (fun p hp => hp) e2, hd ro2 ka2 ta' inv hta sg2 H2 e2⟩
/-- .. the target a name -/
theorem g_forn {wi : TI} {ws : List W} {C : Cells → Prop} {j : Nat} {tb : TS} {De : Ends} (h : EvI K wi ro ka ws C k1) (Inv : Nat → Ro → Cells → Prop) (h0 : Inv 0 ro k1) (hC : ∀ i ro2 ka2, Inv i ro2 ka2 → C ka2)
    (hs : ∀ i w ro2 ka2 ta', ws[i]? = some w → Inv i ro2 ka2 → Gp K B F0 ta' (tb { De with nx := Jp K B F0 ta' (Inv (i + 1)), ct := Jp K B F0 ta' (Inv (i + 1)), bk := De.nx }) (ro2.set j (some w)) ka2)
    (hd : ∀ ro2 ka2 ta', Inv ws.length ro2 ka2 → (∀ p ∈ ta, p ∈ ta') → Gp K B F0 ta' De.nx ro2 ka2) : Gp K B F0 ta (tFor wi (gName j) tb De) ro ka :=
  g_for h Inv h0 hC (fun i w ro2 ka2 hw inv ta' sg H e x ex => hs i w ro2 ka2 ta' hw inv _ _ (ex.set j)) hd
theorem q_forn {wi : TI} {ws : List W} {C : Cells → Prop} {j : Nat} {tb : TS} {De : Ends} (h : EvI K wi ro ka ws C k1) (Inv : Nat → Ro → Cells → Prop) (h0 : Inv 0 ro k1) (hC : ∀ i ro2 ka2, Inv i ro2 ka2 → C ka2)
    (hs : ∀ i w ro2 ka2 ta', ws[i]? = some w → Inv i ro2 ka2 → Gp K B F0 ta' (tb { De with nx := Jp K B F0 ta' (Inv (i + 1)), ct := Jp K B F0 ta' (Inv (i + 1)), bk := u De }) (ro2.set j (some w)) ka2)
    (hd : ∀ ro2 ka2 ta', Inv ws.length ro2 ka2 → (∀ p ∈ ta, p ∈ ta') → Gp K B F0 ta' (u De) ro2 ka2) : Gp K B F0 ta (tSeq (tFor wi (gName j) tb) u De) ro ka := g_forn (De := { De with nx := u De }) h Inv h0 hC hs hd
/-- while: a word and a number that falls -/
theorem g_while {tb : TS} {De : Ends} (Inv : Nat → Ro → Cells → Prop) (m0 : Nat) (h0 : Inv m0 ro ka)
    (hs : ∀ m ro2 ka2, Inv m ro2 ka2 → ∃ b k2, EvT K tt ro2 ka2 b k2 ∧ (b = true → Gp K B F0 ta (tb { De with nx := Jp K B F0 ta (fun r k => ∃ m', m' < m ∧ Inv m' r k), ct := Jp K B F0 ta (fun r k => ∃ m', m' < m ∧ Inv m' r k), bk := De.nx }) ro2 k2) ∧ (b = false → Gp K B F0 ta De.nx ro2 k2)) :
    Gp K B F0 ta (tWhile tt tb De) ro ka := fun sg H e => by
  refine ⟨fun m sg H => Jp K B F0 ta (Inv m) sg H, ⟨m0, ro, ka, h0, e⟩, fun m sg2 H2 ⟨ro2, ka2, inv, e2⟩ => ?_⟩
  obtain ⟨b, k2, ht, h1, h2⟩ := hs m ro2 ka2 inv
  refine ht B F0 ta sg2 H2 _ e2 fun H3 e3 => ?_
  cases b with
  | true => exact ⟨_, fun sg' H' ⟨r, k, ⟨m', hm, inv'⟩, e'⟩ => ⟨m', hm, r, k, inv', e'⟩, h1 rfl _ _ e3⟩
  | false => exact h2 rfl _ _ e3
theorem q_while {tb : TS} {De : Ends} (Inv : Nat → Ro → Cells → Prop) (m0 : Nat) (h0 : Inv m0 ro ka)
    (hs : ∀ m ro2 ka2, Inv m ro2 ka2 → ∃ b k2, EvT K tt ro2 ka2 b k2 ∧ (b = true → Gp K B F0 ta (tb { De with nx := Jp K B F0 ta (fun r k => ∃ m', m' < m ∧ Inv m' r k), ct := Jp K B F0 ta (fun r k => ∃ m', m' < m ∧ Inv m' r k), bk := u De }) ro2 k2) ∧ (b = false → Gp K B F0 ta (u De) ro2 k2)) :
    Gp K B F0 ta (tSeq (tWhile tt tb) u De) ro ka := g_while (De := { De with nx := u De }) Inv m0 h0 hs

theorem ei_range1 {tr : TA} {m : Int} (h : EvA K tr ro ka [.val (.int m)] k1) (hm : m ≤ 1000000) (hm0 : -1000000 ≤ m) : EvI K (iRng1 tr) ro ka ((List.range m.toNat).map fun i : Nat => W.val (.int (i : Int))) (fun _ => True) k1 := fun B F0 ta sg H R e q =>
  h B F0 ta sg H _ e fun vs H1 hl e1 => by
    match vs, hl with
    | [v], _ =>
      have hv := e1.tm_int (v := v) (i := m) List.mem_cons_self
      subst hv
      refine ⟨m, rfl, by omega, by omega, q _ ta H1 (fun p hp => hp) (e1.held fun p hp => List.mem_append_right _ hp) (fun i w ro2 ka2 ta2 sg2 H2 hw _ _ e2 => ?_) fun i ro2 ka2 ta2 sg2 H2 hi _ _ _ => ?_⟩
      · rw [List.getElem?_map] at hw
        cases hi : (List.range m.toNat)[i]? with
        | none => rw [hi] at hw; cases hw
        | some j =>
          rw [hi] at hw
          obtain ⟨hlt, hj⟩ := List.getElem?_eq_some_iff.mp hi
          rw [List.getElem_range] at hj
          subst hj
          cases hw
          refine ⟨by show i < _; simpa using hlt, fun x H3 ⟨e3, ex⟩ => ?_⟩
          subst e3 ex
          exact e2.push_imm fun _ => by
            show V.int (0 + (i : Int)) = V.int (i : Int)
            rw [Int.zero_add]
      · rw [List.length_map, List.length_range] at hi
        exact hi
end

/-! ### any sequence walked -/
/-- lists, tuples, texts -/
def iSeq (K : PySem.W.Frag) (tl : TE) : TI := fun sg H R => iList K tl sg H R ∨ iTup K tl sg H R ∨ iStr tl sg H R
theorem pi_seq {X : Cx} {tg : Expr} {l : Expr} {tl : TE} (hl : PE X l tl) : PI X tg l (iSeq X.K tl) :=
  ⟨fun pins s sg H R I h => h.elim ((pi_list hl).run pins s sg H R I) fun h => h.elim ((pi_tup hl).run pins s sg H R I) ((pi_str hl).run pins s sg H R I)⟩
section
variable {K : PySem.W.Frag} {ro : Ro} {ka k1 : Cells} {te : TE} {w : W}
/-- the cell that is walked stays -/
def Stay (w : W) (ds : List D) (ka : Cells) : Prop := match w with
  | .val (.adr a) => (a, Nd.lst ds) ∈ ka
  | _ => True
theorem Lk.mono {ka : Cells} {t b : Bool} {ds : List D} (l : Lk ka w t ds b) (ka2 : Cells) (h : Stay w ds ka2) : Lk ka2 w t ds b := by
  cases l with
  | vl => exact .vl
  | vt => exact .vt
  | wl => exact .wl
  | wt => exact .wt
  | ce j hj =>
    obtain ⟨j2, h2⟩ := List.getElem?_of_mem h
    exact .ce j2 h2
theorem ei_seq {t b : Bool} {ds : List D} (h : EvD K te ro ka w k1) (l : Lk k1 w t ds b) : EvI K (iSeq K te) ro ka (ds.map (part b)) (Stay w ds) k1 := fun B F0 ta sg H R e q => by
  have again : ∀ (a : Addr) ro2 ka2 ta2 sg2 H2, Stay w ds ka2 → (V.ref a, w) ∈ ta2 → En K B F0 ro2 ka2 ta2 sg2 H2 → ∃ F ys, EnF K B F ro2 ka2 ta2 sg2 H2 ∧ Gr B F0 F ∧ SqB K t H2 a ys ∧ RpL K (if b then uni B F else F) ds ys := fun a ro2 ka2 ta2 sg2 H2 hs hm e2 => by
    obtain ⟨F, g, e2⟩ := e2
    obtain ⟨a', ys, e', s2, r2⟩ := (l.mono ka2 hs).get e2 (e2.tm _ hm)
    cases e'
    exact ⟨F, ys, e2, g, s2, r2⟩
  have item : ∀ {i : Nat} {w2 : W} {F : Hp} {ys : List V}, (ds.map (part b))[i]? = some w2 → RpL K (if b then uni B F else F) ds ys → ∃ y, ys[i]? = some y ∧ WOk K B F y w2 := fun {i w2 F ys} hw r2 => by
    rw [List.getElem?_map] at hw
    cases hd : ds[i]? with
    | none => rw [hd] at hw; cases hw
    | some d =>
      rw [hd] at hw
      cases hw
      obtain ⟨y, hy, ry⟩ := rpl_get r2 hd
      exact ⟨y, hy, wok_part b ry⟩
  cases t with
  | true =>
    refine .inr (.inl (h B F0 ta sg H _ e fun v H1 e1 => ?_))
    obtain ⟨F, g, ef⟩ := id e1
    obtain ⟨a, xs, rfl, s1, r1⟩ := l.get ef (ef.tm _ List.mem_cons_self)
    refine ⟨a, rfl, ⟨xs, s1⟩, q _ ((.ref a, w) :: ta) H1 (fun p hp => List.mem_cons_of_mem _ hp) e1 (fun i w2 ro2 ka2 ta2 sg2 H2 hw hs hm e2 => ?_) fun i ro2 ka2 ta2 sg2 H2 hi hs hm e2 => ?_⟩
    · obtain ⟨F2, ys, ef2, g2, s2, r2⟩ := again a ro2 ka2 ta2 sg2 H2 hs (hm _ List.mem_cons_self) e2
      obtain ⟨y, hy, wy⟩ := item hw r2
      refine ⟨⟨ys, y, s2, hy⟩, fun x H3 ⟨e3, ex⟩ => ?_⟩
      subst e3
      have h5 := ex ys s2
      rw [hy] at h5
      cases h5
      exact ⟨F2, g2, ef2.push wy⟩
    · obtain ⟨F2, ys, ef2, g2, s2, r2⟩ := again a ro2 ka2 ta2 sg2 H2 hs (hm _ List.mem_cons_self) e2
      refine ⟨ys, s2, ?_⟩
      rw [rpl_len r2]
      rwa [List.length_map] at hi
  | false =>
    refine .inl (h B F0 ta sg H _ e fun v H1 e1 => ?_)
    obtain ⟨F, g, ef⟩ := id e1
    obtain ⟨a, xs, rfl, s1, r1⟩ := l.get ef (ef.tm _ List.mem_cons_self)
    refine ⟨a, rfl, ⟨xs, .inl s1⟩, q _ ((.ref a, w) :: ta) H1 (fun p hp => List.mem_cons_of_mem _ hp) e1 (fun i w2 ro2 ka2 ta2 sg2 H2 hw hs hm e2 => ?_) fun i ro2 ka2 ta2 sg2 H2 hi hs hm e2 => ?_⟩
    · obtain ⟨F2, ys, ef2, g2, s2, r2⟩ := again a ro2 ka2 ta2 sg2 H2 hs (hm _ List.mem_cons_self) e2
      obtain ⟨y, hy, wy⟩ := item hw r2
      refine ⟨⟨ys, y, .inl s2, hy⟩, fun x H3 ⟨e3, ex⟩ => ?_⟩
      subst e3
      have h5 := ex ys (.inl s2)
      rw [hy] at h5
      cases h5
      exact ⟨F2, g2, ef2.push wy⟩
    · obtain ⟨F2, ys, ef2, g2, s2, r2⟩ := again a ro2 ka2 ta2 sg2 H2 hs (hm _ List.mem_cons_self) e2
      refine ⟨ys, .inl s2, ?_⟩
      rw [rpl_len r2]
      rwa [List.length_map] at hi
theorem ei_str {s : Str} (h : EvD K te ro ka (.val (.str s)) k1) : EvI K (iSeq K te) ro ka (s.cps.toList.map fun c => W.val (.str ⟨#[c]⟩)) (fun _ => True) k1 := fun B F0 ta sg H R e q =>
  .inr (.inr (h B F0 ta sg H _ e fun v H1 e1 => by
    have hv := e1.tm_str List.mem_cons_self
    subst hv
    refine ⟨s, rfl, q _ ta H1 (fun p hp => hp) e1.pop (fun i w2 ro2 ka2 ta2 sg2 H2 hw _ hm e2 => ?_) fun i ro2 ka2 ta2 sg2 H2 hi _ hm e2 => ?_⟩
    · rw [List.getElem?_map] at hw
      cases hd : s.cps.toList[i]? with
      | none => rw [hd] at hw; cases hw
      | some c =>
        rw [hd] at hw
        cases hw
        have hc : s.cps[i]? = some c := by simpa using hd
        refine ⟨(Array.getElem?_eq_some_iff.mp hc).1, fun x H3 ⟨e3, c', hc', ex⟩ => ?_⟩
        subst e3 ex
        rw [hc] at hc'
        cases hc'
        exact e2.push_imm fun _ => rfl
    · show s.cps.size ≤ i
      simpa using hi))
end
end DL

/-! DT: frames, calls, comprehensions by data (own work). -/
namespace DL
open PySem L2

section
variable {K : PySem.W.Frag} {B B' F F' F0 : Hp} {ro : Ro} {ka k1 k2 k3 kr : Cells} {ta : List (V × W)} {sg : L2.St} {H H' : Hp} {te tf tg : TE} {tl th : TO} {tr : TA} {tt : TT} {w x y z : W} {n : Nd}

/-- H without the cells of kf -/
def off (H : Hp) (kf : Cells) : Hp := fun a => if a ∈ kf.map (·.1) then none else H a
theorem off_in {kf : Cells} {a : Addr} (h : a ∈ kf.map (·.1)) : off H kf a = none := if_pos h
theorem off_out {kf : Cells} {a : Addr} (h : a ∉ kf.map (·.1)) : off H kf a = H a := if_neg h
theorem off_some {kf : Cells} {a : Addr} {o : HO} (h : off H kf a = some o) : a ∉ kf.map (·.1) ∧ H a = some o := by
  unfold off at h
  split at h
  · cases h
  · rename_i q
    exact ⟨q, h⟩
theorem EnF.sub_off (e : EnF K B F ro ka ta sg H) {kf : Cells} (hk : ∀ p ∈ kf, p ∈ ka) : Sub B (off H kf) := fun a o h => by
  have na : a ∉ kf.map (·.1) := fun hm => by
    obtain ⟨p, hp, rfl⟩ := List.mem_map.mp hm
    have := (e.ce p (hk p hp)).2.1
    rw [this] at h
    cases h
  rw [off_out na]
  exact e.fr a o h
theorem uni_subB {B B' F : Hp} (h : Sub B B') : Sub (uni B F) (uni B' F) := fun a u q => by
  unfold uni at q ⊢
  cases hf : F a with
  | some o => rw [hf] at q; exact q
  | none =>
    rw [hf] at q
    cases hb : B a with
    | none => rw [hb] at q; cases q
    | some o => rw [hb] at q; rw [h a o hb]; exact q
theorem wok_subB (n : Nz F) (h : Sub B B') {v : V} {w : W} (q : WOk K B F v w) : WOk K B' F v w := by
  cases w with
  | val d => exact q
  | vw d => exact Rp.mono (uni_subB h).exz (uni_nz n) d v q
/-- the part of a state that a part of the text works on: the cells kf, all else as it stands -/
theorem EnF.into (e : EnF K B F ro (ka ++ kr) ta sg H) {ro' : Ro} {sg' : L2.St} {ta' : List (V × W)} (hl : sg'.length = ro'.length) (hs : ∀ (i : Nat) w, ro'[i]? = some (some w) → ∃ v, sg'[i]? = some (some v) ∧ WOk K B F v w) (ht : ∀ p ∈ ta', p ∈ ta) :
    EnF K (off H ka) F ro' ka ta' sg' H := by
  have hsub : Sub B (off H ka) := e.sub_off fun p hp => List.mem_append_left _ hp
  have nd := e.nd
  rw [List.map_append, List.nodup_append] at nd
  refine ⟨e.nz, e.fz, fun a o h => (off_some h).2, nd.1, fun p hp => ?_, hl, fun i w h => ?_, fun p hp => wok_subB e.nz hsub (e.tm p (ht p hp))⟩
  · obtain ⟨h1, h2, h3⟩ := e.ce p (List.mem_append_left _ hp)
    exact ⟨h1, off_in (List.mem_map.mpr ⟨p, hp, rfl⟩), h3⟩
  · obtain ⟨v, h1, h2⟩ := hs i w h
    exact ⟨v, h1, wok_subB e.nz hsub h2⟩
/-- .. and back -/
theorem EnF.back (e : EnF K B F ro (ka ++ kr) ta sg H) (g : Gr (off H ka) F F') {ro' : Ro} {sg' : L2.St} {ta' : List (V × W)} (e' : EnF K (off H ka) F' ro' k2 ta' sg' H') {tb : List (V × W)} (hb : ∀ p ∈ tb, p ∈ ta ∨ ∃ d, p.2 = .val d ∧ p ∈ ta') :
    Gr B F F' ∧ EnF K B F' ro (k2 ++ kr) tb sg H' := by
  have hsub : Sub B (off H ka) := e.sub_off fun p hp => List.mem_append_left _ hp
  have gg : Gr B F F' := ⟨g.sub, fun a h1 h2 => g.off a h1 fun q => by
    cases hb2 : B a with
    | none => exact h2 hb2
    | some o => rw [hsub a o hb2] at q; cases q⟩
  have nd := e.nd
  rw [List.map_append, List.nodup_append] at nd
  -- the cells that were left stand off what was worked on
  have left : ∀ p ∈ kr, off H ka p.1 ≠ none ∧ H' p.1 = H p.1 := fun p hp => by
    obtain ⟨h1, h2, h3⟩ := e.ce p (List.mem_append_right _ hp)
    have hn : p.1 ∉ ka.map (·.1) := fun hm => nd.2.2 _ hm _ (List.mem_map.mpr ⟨p, hp, rfl⟩) rfl
    cases q : H p.1 with
    | none => exact absurd q (ndok_ne h3)
    | some o =>
      have ho : off H ka p.1 = some o := by rw [off_out hn]; exact q
      exact ⟨by rw [ho]; exact fun z => (by cases z), e'.fr _ _ ho⟩
  refine ⟨gg, e'.nz, e'.fz, hsub.trans e'.fr, ?_, fun p hp => ?_, e.ln, fun i w h => ?_, fun p hp => ?_⟩
  · rw [List.map_append, List.nodup_append]
    refine ⟨e'.nd, nd.2.1, fun a ha b hb => ?_⟩
    obtain ⟨p, hp, rfl⟩ := List.mem_map.mp ha
    obtain ⟨q, hq, rfl⟩ := List.mem_map.mp hb
    intro z
    exact (left q hq).1 (z ▸ (e'.ce p hp).2.1)
  · rcases List.mem_append.mp hp with hp | hp
    · obtain ⟨h1, h2, h3⟩ := e'.ce p hp
      refine ⟨h1, ?_, h3⟩
      cases q : B p.1 with
      | none => rfl
      | some o => rw [hsub _ _ q] at h2; cases h2
    · obtain ⟨h1, h2, h3⟩ := e.ce p (List.mem_append_right _ hp)
      obtain ⟨l1, l2⟩ := left p hp
      exact ⟨g.off _ h1 l1, h2, ndok_at l2 (ndok_gr e.nz gg h3)⟩
  · obtain ⟨v, h1, h2⟩ := e.sl i w h
    exact ⟨v, h1, wok_gr e.nz gg h2⟩
  · rcases hb p hp with q | ⟨d, hd, q⟩
    · exact wok_gr e.nz gg (e.tm p q)
    · have h2 := e'.tm p q
      rw [hd] at h2 ⊢
      exact h2

/-! ### frames -/
theorem EvD.fr {d : D} (h : EvD K te ro ka (.val d) k2) (kr : Cells) : EvD K te ro (ka ++ kr) (.val d) (k2 ++ kr) := fun B F0 ta sg H Q e q => by
  obtain ⟨F, g, e⟩ := e
  refine h (off H ka) F ta sg H Q ⟨F, Gr.refl _ _, e.into e.ln e.sl fun p hp => hp⟩ fun v H' ⟨F', g', e'⟩ => ?_
  obtain ⟨g2, e2⟩ := e.back g' e' (tb := (v, .val d) :: ta) fun p hp => by
    rcases List.mem_cons.mp hp with rfl | hp
    · exact .inr ⟨d, rfl, List.mem_cons_self⟩
    · exact .inl hp
  exact q v H' ⟨F', g.trans g2, e2⟩
theorem EvT.fr {b : Bool} (h : EvT K tt ro ka b k2) (kr : Cells) : EvT K tt ro (ka ++ kr) b (k2 ++ kr) := fun B F0 ta sg H Q e q => by
  obtain ⟨F, g, e⟩ := e
  refine h (off H ka) F ta sg H Q ⟨F, Gr.refl _ _, e.into e.ln e.sl fun p hp => hp⟩ fun H' ⟨F', g', e'⟩ => ?_
  obtain ⟨g2, e2⟩ := e.back g' e' (tb := ta) fun p hp => .inl hp
  exact q H' ⟨F', g.trans g2, e2⟩
theorem En.perm (e : En K B F0 ro ka ta sg H) (h : k1.Perm ka) : En K B F0 ro k1 ta sg H :=
  let ⟨F, g, q⟩ := e
  ⟨F, g, q.perm h⟩
theorem EvN.fr {m : Nd} (h : EvN K te ro ka m k2) (kr : Cells) : EvN K te ro (ka ++ kr) m (k2 ++ kr) := fun B F0 ta sg H Q e q => by
  obtain ⟨F, g, e⟩ := e
  refine h (off H ka) F ta sg H Q ⟨F, Gr.refl _ _, e.into e.ln e.sl fun p hp => hp⟩ fun a H' ⟨F', g', e'⟩ => ?_
  obtain ⟨g2, e2⟩ := e.back g' e' (tb := ta) fun p hp => .inl hp
  refine q a H' ⟨F', g.trans g2, e2.perm ?_⟩
  rw [List.append_assoc, List.append_assoc]
  exact List.Perm.append_left _ List.perm_append_comm

/-! ### calls -/
/-- a call that comes back -/
theorem sp_ret {C : Ct} {ws : List W} {out : Out → Cells → Prop} {vs : List V} {E : XK} {Q : VK} {d : D} (e : En K B F0 ro (ka ++ kr) (vs.zip ws ++ ta) sg H) (hl : vs.length = ws.length) (hC : C ws ka out) (ho : ∀ o k, out o k → o = .ret d ∧ k = k2)
    (q : ∀ v H', En K B F0 ro (k2 ++ kr) ((v, .val d) :: ta) sg H' → Q v H') : spC K C vs H Q E := by
  obtain ⟨F, g, e⟩ := e
  refine ⟨off H ka, F, ws, ka, out, hC, hl, ⟨F, Gr.refl _ _, e.into (ro' := []) (sg' := []) (ta' := vs.zip ws) rfl (fun i w h => by simp at h) fun p hp => List.mem_append_left _ hp⟩, fun d' k v H' o ⟨F', g', e'⟩ => ?_, fun C fs k dx H' o _ => ?_, fun C k H' o _ => ?_⟩
  · obtain ⟨hd, rfl⟩ := ho _ _ o
    cases hd
    obtain ⟨g2, e2⟩ := e.back g' e' (tb := (v, .val d) :: ta) fun p hp => by
      rcases List.mem_cons.mp hp with rfl | hp
      · exact .inr ⟨d, rfl, List.mem_cons_self⟩
      · exact .inl (List.mem_append_right _ hp)
    exact q v H' ⟨F', g.trans g2, e2⟩
  · have := (ho _ _ o).1
    cases this
  · have := (ho _ _ o).1
    cases this
theorem ev_call {C : Ct} {ws : List W} {out : Out → Cells → Prop} {E : XK} {d : D} (ha : EvA K tr ro ka ws k1) (hC : C ws k1 out) (ho : ∀ o k, out o k → o = .ret d ∧ k = k2) : EvD K (tCall (spC K C) [] E tr) ro ka (.val d) k2 := fun B F0 ta sg H Q e q =>
  ha B F0 ta sg H _ e fun vs H1 hl e1 => by
    rw [List.append_nil]
    have e1' : En K B F0 ro (k1 ++ []) (vs.zip ws ++ ta) sg H1 := by rw [List.append_nil]; exact e1
    exact sp_ret e1' hl hC ho fun v H' e2 => q v H' (by rw [List.append_nil] at e2; exact e2)
/-- .. the cells that it works on ahead of others -/
theorem ev_callF {C : Ct} {ws : List W} {out : Out → Cells → Prop} {E : XK} {d : D} (kr : Cells) (ha : EvA K tr ro ka ws (k1 ++ kr)) (hC : C ws k1 out) (ho : ∀ o k, out o k → o = .ret d ∧ k = k2) : EvD K (tCall (spC K C) [] E tr) ro ka (.val d) (k2 ++ kr) := fun B F0 ta sg H Q e q =>
  ha B F0 ta sg H _ e fun vs H1 hl e1 => by
    rw [List.append_nil]
    exact sp_ret e1 hl hC ho q
/-! ### comprehensions -/
def wipeR (ro : Ro) : List Nat → Ro
  | [] => ro
  | v :: vs => (wipeR ro vs).set v none
theorem wipe_en : ∀ {vs : List Nat}, EnF K B F ro ka ta sg H → EnF K B F (wipeR ro vs) ka ta (wipe sg vs) H
  | [], e => e
  | v :: vs, e => by
    have e1 := wipe_en (vs := vs) e
    refine e1.frame (by show (List.set _ _ _).length = (List.set _ _ _).length; rw [List.length_set, List.length_set, e1.ln]) fun i w h => ?_
    show ∃ v', ((wipe sg vs).set v none)[i]? = some (some v') ∧ _
    have h' : ((wipeR ro vs).set v none)[i]? = some (some w) := h
    by_cases hi : v = i
    · subst hi
      have hlt : v < (wipeR ro vs).length := by
        have := (List.getElem?_eq_some_iff.mp h').1
        rwa [List.length_set] at this
      rw [List.getElem?_set_self hlt] at h'
      cases h'
    · rw [List.getElem?_set_ne hi] at h' ⊢
      exact e1.sl i w h'
theorem wipe_set (sg : L2.St) (vs : List Nat) {j : Nat} (hj : j ∈ vs) (v : V) : wipe ((wipe sg vs).set j (some v)) vs = wipe sg vs := by
  have key : ∀ (vs : List Nat) (s t : L2.St), s.length = t.length → (∀ i : Nat, i ∉ vs → s[i]? = t[i]?) → wipe s vs = wipe t vs := by
    intro vs
    induction vs with
    | nil =>
      intro s t hl h
      exact List.ext_getElem? fun i => h i (by simp)
    | cons a vs ih =>
      intro s t hl h
      show (wipe s vs).set a none = (wipe t vs).set a none
      apply List.ext_getElem?
      intro i
      by_cases hi : a = i
      · subst hi
        rw [List.getElem?_set, List.getElem?_set, wipe_length, wipe_length, hl, if_pos rfl, if_pos rfl]
      · rw [List.getElem?_set_ne hi, List.getElem?_set_ne hi]
        have gen : ∀ (vs : List Nat) (s t : L2.St), s.length = t.length → ∀ i : Nat, s[i]? = t[i]? → (wipe s vs)[i]? = (wipe t vs)[i]? := by
          intro vs
          induction vs with
          | nil => intro s t _ i h; exact h
          | cons b vs ih2 =>
            intro s t hl i h
            show ((wipe s vs).set b none)[i]? = ((wipe t vs).set b none)[i]?
            rw [List.getElem?_set, List.getElem?_set, wipe_length, wipe_length, hl, ih2 s t hl i h]
        by_cases hv : i ∈ vs
        · have wn : ∀ (vs : List Nat) (s : L2.St) (i : Nat), i ∈ vs → i < s.length → (wipe s vs)[i]? = some none := by
            intro vs
            induction vs with
            | nil => intro s i h; simp at h
            | cons b vs ih2 =>
              intro s i h hlt
              show ((wipe s vs).set b none)[i]? = some none
              by_cases hb : b = i
              · subst hb
                rw [List.getElem?_set_self (by rw [wipe_length]; exact hlt)]
              · rw [List.getElem?_set_ne hb]
                rcases List.mem_cons.mp h with q | q
                · exact absurd q.symm hb
                · exact ih2 s i q hlt
          by_cases hlt : i < s.length
          · rw [wn vs s i hv hlt, wn vs t i hv (hl ▸ hlt)]
          · rw [List.getElem?_eq_none (by rw [wipe_length]; omega), List.getElem?_eq_none (by rw [wipe_length]; omega)]
        · exact gen vs s t hl i (h i (by simp [Ne.symm hi, hv]))
  have idem : ∀ (vs : List Nat) (s : L2.St), wipe (wipe s vs) vs = wipe s vs := fun vs s => key vs _ _ (wipe_length _ _) fun i hi => by
    have gen : ∀ (us : List Nat) (s : L2.St), i ∉ us → (wipe s us)[i]? = s[i]? := by
      intro us
      induction us with
      | nil => intro s _; rfl
      | cons b us ih2 =>
        intro s h
        show ((wipe s us).set b none)[i]? = s[i]?
        rw [List.getElem?_set_ne (fun q => h (by simp [q])), ih2 s fun q => h (List.mem_cons_of_mem _ q)]
    exact gen vs s hi
  have e1 : wipe ((wipe sg vs).set j (some v)) vs = wipe (wipe sg vs) vs := key vs _ _ (by rw [List.length_set]) fun i hi => by
    have hne : j ≠ i := fun q => hi (q ▸ hj)
    exact List.getElem?_set_ne hne
  rw [e1, idem]
/-- a new cell of which R tells -/
def EvNR (K : PySem.W.Frag) (te : TE) (ro : Ro) (ka : Cells) (R : Nd → Cells → Prop) : Prop := ∀ B F0 ta sg H (Q : VK), En K B F0 ro ka ta sg H → (∀ n k a H', R n k → En K B F0 ro (k ++ [(a, n)]) ta sg H' → Q (.ref a) H') → te sg H Q
/-- [e for x in .. if ..]: what is told of the list -/
theorem evr_lc {wi : TI} {ws : List W} {C : Cells → Prop} {j : Nat} {vs : List Nat} (h : EvI K wi ro ka ws C k1) (hj : j ∈ vs) (hn : ws.length ≤ 1000000) (Inv : Nat → List D → Cells → Prop) (h0 : Inv 0 [] k1) (hC : ∀ i acc k, Inv i acc k → C k ∧ ∀ x, C (k ++ [x]))
    (hs : ∀ i w acc k, ws[i]? = some w → Inv i acc k → (∃ k2, EvT K tt ((wipeR ro vs).set j (some w)) k false k2 ∧ Inv (i + 1) acc k2) ∨ ∃ k2 k3 d, EvT K tt ((wipeR ro vs).set j (some w)) k true k2 ∧ EvD K te ((wipeR ro vs).set j (some w)) k2 (.val d) k3 ∧ Inv (i + 1) (acc ++ [d]) k3)
    : EvNR K (tLc wi (gName j) tt te vs) ro ka (fun n k => ∃ acc, n = .lst acc ∧ Inv ws.length acc k) := fun B F0 ta sg H Q e q =>
  h B F0 ta sg H _ e fun J ta' H1 hta e1 hgo hst => fun Dl hD => by
    -- the word: the list so far is the last cell
    let P : Nat → Hp → Prop := fun i H => ∃ acc k, Inv i acc k ∧ acc.length ≤ i ∧ En K B F0 ro (k ++ [(Dl, .lst acc)]) ta' sg H
    have p0 : P 0 (upd H1 Dl (.lst [])) := by
      obtain ⟨F, g, e1⟩ := e1
      exact ⟨[], k1, h0, Nat.le_refl _, F, g, e1.cell (o := .lst []) hD (n := .lst []) ⟨[], upd_same, rfl⟩⟩
    refine ⟨fun i m H => m = ws.length - i ∧ i ≤ ws.length ∧ P i H, ⟨ws.length, by simp, Nat.zero_le _, p0⟩, ?_⟩
    rintro i m H2 ⟨rfl, hi, acc, k, inv, hlen, e2⟩
    by_cases hlt : i < ws.length
    · have hw := List.getElem?_eq_getElem hlt
      obtain ⟨g1, g2⟩ := hgo i ws[i] ro (k ++ [(Dl, .lst acc)]) ta' sg H2 hw ((hC i acc k inv).2 _) (fun p hp => hp) e2
      refine .inr ⟨g1, P (i + 1), fun H' p => ⟨ws.length - (i + 1), by omega, rfl, hlt, p⟩, fun x H3 y => ?_⟩
      have e3 := g2 x H3 y
      refine ⟨wipe_set sg vs hj x, ?_⟩
      -- within the block
      have e4 : En K B F0 ((wipeR ro vs).set j (some ws[i])) (k ++ [(Dl, .lst acc)]) ta' ((wipe sg vs).set j (some x)) H3 := by
        obtain ⟨F, g, e3⟩ := e3
        exact ⟨F, g, ((wipe_en (vs := vs) e3).set (e3.tm _ List.mem_cons_self) j).held fun p hp => List.mem_cons_of_mem _ hp⟩
      -- and back out of it
      have out : ∀ {k : Cells} {ta2 : List (V × W)} {H : Hp}, (∃ F, Gr B F0 F ∧ EnF K B F ((wipeR ro vs).set j (some ws[i])) k ta2 ((wipe sg vs).set j (some x)) H ∧ ∀ (a : Nat) w, ro[a]? = some (some w) → ∃ v, sg[a]? = some (some v) ∧ WOk K B F v w) → En K B F0 ro k ta2 sg H := fun ⟨F, g, q, hs⟩ => ⟨F, g, q.frame (by obtain ⟨_, _, e0⟩ := e; exact e0.ln) hs⟩
      obtain ⟨F3, gF3, eF3⟩ := e3
      have slots : ∀ {F : Hp}, Gr B F3 F → ∀ (a : Nat) w, ro[a]? = some (some w) → ∃ v, sg[a]? = some (some v) ∧ WOk K B F v w := fun {F} g a w ha => by
        obtain ⟨v, h1, h2⟩ := eF3.sl a w ha
        exact ⟨v, h1, wok_gr eF3.nz g h2⟩
      have e4' : En K B F3 ((wipeR ro vs).set j (some ws[i])) (k ++ [(Dl, .lst acc)]) ta' ((wipe sg vs).set j (some x)) H3 :=
        ⟨F3, Gr.refl _ _, ((wipe_en (vs := vs) eF3).set (eF3.tm _ List.mem_cons_self) j).held fun p hp => List.mem_cons_of_mem _ hp⟩
      rcases hs i ws[i] acc k hw inv with ⟨k2, t1, inv2⟩ | ⟨k2, k3, d, t1, t2, inv2⟩
      · refine t1.fr [(Dl, .lst acc)] B F3 ta' _ H3 _ e4' fun H4 ⟨F4, g4, e5⟩ => ?_
        exact ⟨acc, k2, inv2, Nat.le_succ_of_le hlen, out ⟨F4, gF3.trans g4, e5, slots g4⟩⟩
      · refine t1.fr [(Dl, .lst acc)] B F3 ta' _ H3 _ e4' fun H4 e5 => ?_
        refine t2.fr [(Dl, .lst acc)] B F3 ta' _ H4 _ e5 fun v H5 ⟨F5, g5, e6⟩ => ?_
        have hx : (k3 ++ [(Dl, Nd.lst acc)])[k3.length]? = some (Dl, Nd.lst acc) := by simp
        obtain ⟨xs, h1, h2⟩ := e6.rd_lst hx
        have hv := e6.tm _ List.mem_cons_self
        have e7 := e6.write (o := .lst (xs ++ [v])) (n' := .lst (acc ++ [d])) hx ⟨_, upd_same, rpl_app h2 ⟨v, [], rfl, hv, rfl⟩⟩
        have hset : (k3 ++ [(Dl, Nd.lst acc)]).set k3.length (Dl, Nd.lst (acc ++ [d])) = k3 ++ [(Dl, Nd.lst (acc ++ [d]))] := by
          rw [List.set_append_right _ _ (Nat.le_refl _)]
          simp
        rw [hset] at e7
        refine ⟨xs, h1, by rw [rpl_len h2]; exact Nat.lt_of_le_of_lt (Nat.le_trans hlen (Nat.le_trans hi hn)) (by decide), acc ++ [d], k3, inv2, by rw [List.length_append]; exact Nat.succ_le_succ hlen, ?_⟩
        exact out ⟨F5, gF3.trans g5, e7.held fun p hp => List.mem_cons_of_mem _ hp, slots g5⟩
    · have ei : i = ws.length := by omega
      subst ei
      refine .inl ⟨hst _ ro (k ++ [(Dl, .lst acc)]) ta' sg H2 (Nat.le_refl _) ((hC _ acc k inv).2 _) (fun p hp => hp) e2, ?_⟩
      exact q _ _ Dl H2 ⟨acc, rfl, inv⟩ (e2.held hta)
/-- [e for x in .. if ..] -/
theorem evn_lc {wi : TI} {ws : List W} {C : Cells → Prop} {j : Nat} {vs : List Nat} (h : EvI K wi ro ka ws C k1) (hj : j ∈ vs) (hn : ws.length ≤ 1000000) (Inv : Nat → List D → Cells → Prop) (h0 : Inv 0 [] k1) (hC : ∀ i acc k, Inv i acc k → C k ∧ ∀ x, C (k ++ [x]))
    (hs : ∀ i w acc k, ws[i]? = some w → Inv i acc k → (∃ k2, EvT K tt ((wipeR ro vs).set j (some w)) k false k2 ∧ Inv (i + 1) acc k2) ∨ ∃ k2 k3 d, EvT K tt ((wipeR ro vs).set j (some w)) k true k2 ∧ EvD K te ((wipeR ro vs).set j (some w)) k2 (.val d) k3 ∧ Inv (i + 1) (acc ++ [d]) k3)
    {ds : List D} {kz : Cells} (hd : ∀ acc k, Inv ws.length acc k → acc = ds ∧ k = kz) : EvN K (tLc wi (gName j) tt te vs) ro ka (.lst ds) kz := fun B F0 ta sg H Q e q => evr_lc h hj hn Inv h0 hC hs B F0 ta sg H Q e fun n k a H' ⟨acc, hn', inv⟩ e' => by
  subst hn'
  obtain ⟨rfl, rfl⟩ := hd acc k inv
  exact q a H' e'
end
end DL

/-! DE: equality of data (own work). -/
namespace DL
open PySem L2 PySem.SeqAt

mutual
def eqD : D → D → Bool
  | .non, .non => true
  | .bl a, .bl b => a == b
  | .bl a, .int j => (if a then 1 else 0) == j
  | .int i, .bl b => i == (if b then 1 else 0)
  | .int i, .int j => i == j
  | .str x, .str y => x == y
  | .lst xs, .lst ys => eqL xs ys
  | .tup xs, .tup ys => eqL xs ys
  | _, _ => false
def eqL : List D → List D → Bool
  | [], [] => true
  | x :: xs, y :: ys => eqD x y && eqL xs ys
  | _, _ => false
end
/-- plain data: numbers, texts, lists and tuples of these, at most n deep -/
def pl : Nat → D → Bool
  | _, .non => true
  | _, .bl _ => true
  | _, .int _ => true
  | _, .str _ => true
  | n + 1, .lst ds => ds.all (pl n)
  | n + 1, .tup ds => ds.all (pl n)
  | _, _ => false
theorem eqL_len : ∀ {xs ys : List D}, eqL xs ys = true → xs.length = ys.length
  | [], [], _ => rfl
  | [], _ :: _, h => by cases h
  | _ :: _, [], h => by cases h
  | x :: xs, y :: ys, h => by
    have h2 := (Bool.and_eq_true_iff.mp (show (eqD x y && eqL xs ys) = true from h)).2
    rw [List.length_cons, List.length_cons, eqL_len h2]
theorem eqL_ne {xs ys : List D} (h : xs.length ≠ ys.length) : eqL xs ys = false := by
  cases q : eqL xs ys with
  | false => rfl
  | true => exact absurd (eqL_len q) h
/-- equal item by item -/
theorem eqL_all : ∀ (xs ys : List D), xs.length = ys.length → eqL xs ys = (List.range xs.length).all fun j => eqD (xs.getD j .non) (ys.getD j .non)
  | [], [], _ => rfl
  | [], _ :: _, h => by cases h
  | _ :: _, [], h => by cases h
  | x :: xs, y :: ys, h => by
    have ih := eqL_all xs ys (by simpa using h)
    show (eqD x y && eqL xs ys) = _
    rw [ih, List.length_cons, List.range_succ_eq_map, List.all_cons, List.all_map]
    rfl
section
variable {X : Cx} {pins : List (Addr × Obj)} {sg : L2.St} {H G : Hp} {s : Shared}
/-- the same value, two readings: equal -/
theorem eqD_same (I : Inv X pins sg H s) (fz : Exz G H) (nz : Nz G) (n : Nat) : ∀ (d e : D) (v : V), pl n d = true → pl n e = true → Rp X.K G d v → Rp X.K G e v → eqD d e = true := by
  induction n with
  | zero =>
    intro d e v h1 h2 r1 r2
    cases d <;> first | (exact absurd h1 Bool.false_ne_true) | skip
    all_goals cases e <;> first | (exact absurd h2 Bool.false_ne_true) | skip
    all_goals (have q := Eq.trans (Eq.symm (show v = _ from r1)) (show v = _ from r2); first | rfl | (cases q <;> first | rfl | exact beq_self_eq_true _))
  | succ n ih =>
    have hl : ∀ (ds es : List D) (xs : List V), ds.all (pl n) = true → es.all (pl n) = true → RpL X.K G ds xs → RpL X.K G es xs → eqL ds es = true := by
      intro ds
      induction ds with
      | nil =>
        intro es xs _ _ r1 r2
        cases es with
        | nil => rfl
        | cons e es =>
          obtain ⟨x, ys, hx, _⟩ := r2
          rw [show xs = [] from r1] at hx
          cases hx
      | cons d ds ih2 =>
        intro es xs h1 h2 r1 r2
        obtain ⟨x, ys, rfl, a1, a2⟩ := r1
        cases es with
        | nil => cases (show x :: ys = [] from r2)
        | cons e es =>
          obtain ⟨x', ys', hx, b1, b2⟩ := r2
          cases hx
          rw [List.all_cons] at h1 h2
          obtain ⟨c1, c2⟩ := Bool.and_eq_true_iff.mp h1
          obtain ⟨e1, e2⟩ := Bool.and_eq_true_iff.mp h2
          show (eqD d e && eqL ds es) = true
          rw [ih d e x c1 e1 a1 b1, ih2 es ys c2 e2 a2 b2] <;> rfl
    intro d e v h1 h2 r1 r2
    cases d <;> first | (exact absurd h1 Bool.false_ne_true) | skip
    all_goals cases e <;> first | (exact absurd h2 Bool.false_ne_true) | skip
    case tup.tup ds es =>
      obtain ⟨a, xs, rfl, q1, q2⟩ := r1
      obtain ⟨a', ys, e', p1, p2⟩ := r2
      cases e'
      have hxy := I.tuple_inj (sqT_mono fz nz q1) (sqT_mono fz nz p1)
      subst hxy
      exact hl ds es xs h1 h2 q2 p2
    case lst.lst ds es =>
      obtain ⟨a, xs, rfl, q1, q2⟩ := r1
      obtain ⟨a', ys, e', p1, p2⟩ := r2
      cases e'
      have hxy := I.list_inj (.inl (fz.rd nz q1)) (.inl (fz.rd nz p1))
      subst hxy
      exact hl ds es xs h1 h2 q2 p2
    case tup.lst ds es =>
      obtain ⟨a, xs, rfl, q1, q2⟩ := r1
      obtain ⟨a', ys, e', p1, p2⟩ := r2
      cases e'
      obtain ⟨its, _, t1, _⟩ := I.tuple (sqT_mono fz nz q1)
      obtain ⟨its2, _, t2, _⟩ := I.list (.inl (fz.rd nz p1))
      exact absurd rfl (ne_of_list_tuple t2.isList t1)
    case lst.tup ds es =>
      obtain ⟨a, xs, rfl, q1, q2⟩ := r1
      obtain ⟨a', ys, e', p1, p2⟩ := r2
      cases e'
      obtain ⟨its, _, t1, _⟩ := I.tuple (sqT_mono fz nz p1)
      obtain ⟨its2, _, t2, _⟩ := I.list (.inl (fz.rd nz q1))
      exact absurd rfl (ne_of_list_tuple t2.isList t1)
    all_goals first
      | (obtain ⟨a, xs, rfl, _⟩ := r1; cases (show V.ref a = _ from r2))
      | (obtain ⟨a, xs, rfl, _⟩ := r2; cases (show V.ref a = _ from r1))
      | (have q := Eq.trans (Eq.symm (show v = _ from r1)) (show v = _ from r2); first | rfl | (cases q <;> first | rfl | exact beq_self_eq_true _))
/-- the items' equality, by place -/
theorem items_eq {n : Nat} {A : Around} (ih : ∀ (d e : D) (A : Around) (v w : V) (u u' : Value), pl n d = true → pl n e = true → Rp X.K G d v → Rp X.K G e w → RelV v u → RelV w u' → A.units + n < cLine → EqAt A s u u' (eqD d e))
    {ds es : List D} {xs ys : List V} {its its2 : List Value} (h1 : ds.all (pl n) = true) (h2 : es.all (pl n) = true) (r1 : RpL X.K G ds xs) (r2 : RpL X.K G es ys) (q1 : Vals xs its) (q2 : Vals ys its2) (hu : A.units + (n + 1) < cLine) :
    ∀ j (l1 : j < its.toArray.size) (l2 : j < its2.toArray.size), EqAt A.in1 s its.toArray[j] its2.toArray[j] (eqD (ds.getD j .non) (es.getD j .non)) := fun j l1 l2 => by
  have k1 : j < its.length := by simpa using l1
  have k2 : j < its2.length := by simpa using l2
  have m1 : j < ds.length := by rw [← rpl_len r1, q1.length]; exact k1
  have m2 : j < es.length := by rw [← rpl_len r2, q2.length]; exact k2
  obtain ⟨v, hv, rv⟩ := rpl_get r1 (List.getElem?_eq_getElem m1)
  obtain ⟨w, hw, rw2⟩ := rpl_get r2 (List.getElem?_eq_getElem m2)
  obtain ⟨u, hu1, ru⟩ := q1.get hv
  obtain ⟨u', hu2, ru'⟩ := q2.get hw
  have e1 : its.toArray[j] = u := by
    rw [List.getElem?_eq_getElem k1] at hu1
    simpa using hu1
  have e2 : its2.toArray[j] = u' := by
    rw [List.getElem?_eq_getElem k2] at hu2
    simpa using hu2
  have g1 : ds.getD j .non = ds[j] := by simp [List.getD, List.getElem?_eq_getElem m1]
  have g2 : es.getD j .non = es[j] := by simp [List.getD, List.getElem?_eq_getElem m2]
  rw [e1, e2, g1, g2]
  exact ih _ _ A.in1 v w u u' (List.all_eq_true.mp h1 _ (List.getElem_mem m1)) (List.all_eq_true.mp h2 _ (List.getElem_mem m2)) rv rw2 ru ru' (by show A.units + 1 + n < cLine; omega)
theorem list_flat {A : Around} {a : Addr} {its : Array Value} (h : s.heap.IsList a its) (hu : A.units < cLine) : ∀ {w : V} {u : Value}, RelV w u → flatV w = true → EqAt A s (.ref a) u false ∧ EqAt A s u (.ref a) false
  | .non, u, r, _ => by
    cases r
    exact ⟨EqAt.list_none h hu, EqAt.none_list h hu⟩
  | .bl b, u, r, _ => by
    cases r
    exact ⟨EqAt.list_bool b h hu, EqAt.bool_list b h hu⟩
  | .int i, u, r, _ => by
    obtain ⟨t, rfl⟩ := r
    exact ⟨EqAt.list_int i t h hu, EqAt.int_list i t h hu⟩
  | .str z, u, r, _ => by
    obtain ⟨t, rfl⟩ := r
    exact ⟨EqAt.list_str z t h hu, EqAt.str_list z t h hu⟩
  | .byt _, _, _, f => absurd f Bool.false_ne_true
  | .flt _, _, _, f => absurd f Bool.false_ne_true
  | .ref _, _, _, f => absurd f Bool.false_ne_true
  | .ty _, _, _, f => absurd f Bool.false_ne_true
theorem tup_flat {A : Around} {a : Addr} {its : Array Value} (h : s.heap.IsTuple a its) (hu : A.units < cLine) : ∀ {w : V} {u : Value}, RelV w u → flatV w = true → EqAt A s (.ref a) u false ∧ EqAt A s u (.ref a) false
  | .non, u, r, _ => by
    cases r
    exact ⟨EqAt.tuple_none h hu, EqAt.none_tuple h hu⟩
  | .bl b, u, r, _ => by
    cases r
    exact ⟨EqAt.tuple_bool b h hu, EqAt.bool_tuple b h hu⟩
  | .int i, u, r, _ => by
    obtain ⟨t, rfl⟩ := r
    exact ⟨EqAt.tuple_int i t h hu, EqAt.int_tuple i t h hu⟩
  | .str z, u, r, _ => by
    obtain ⟨t, rfl⟩ := r
    exact ⟨EqAt.tuple_str z t h hu, EqAt.str_tuple z t h hu⟩
  | .byt _, _, _, f => absurd f Bool.false_ne_true
  | .flt _, _, _, f => absurd f Bool.false_ne_true
  | .ref _, _, _, f => absurd f Bool.false_ne_true
  | .ty _, _, _, f => absurd f Bool.false_ne_true
/-- flat data -/
def fl : D → Bool
  | .non => true
  | .bl _ => true
  | .int _ => true
  | .str _ => true
  | _ => false
theorem fl_v : ∀ {d : D} {v : V}, fl d = true → Rp X.K G d v → flatV v = true
  | .non, v, _, h => by rw [show v = _ from h]; rfl
  | .bl _, v, _, h => by rw [show v = _ from h]; rfl
  | .int _, v, _, h => by rw [show v = _ from h]; rfl
  | .str _, v, _, h => by rw [show v = _ from h]; rfl
theorem fl_eq : ∀ {d e : D} {v w : V}, fl d = true → fl e = true → Rp X.K G d v → Rp X.K G e w → eqV v w = eqD d e := by
  intro d e v w h1 h2 r1 r2
  cases d <;> first | (exact absurd h1 Bool.false_ne_true) | skip
  all_goals cases e <;> first | (exact absurd h2 Bool.false_ne_true) | skip
  all_goals (have z1 := (show v = _ from r1); have z2 := (show w = _ from r2); subst z1 z2; rfl)
theorem eqAt_D (I : Inv X pins sg H s) (fz : Exz G H) (nz : Nz G) (n : Nat) : ∀ (d e : D) (A : Around) (v w : V) (u u' : Value), pl n d = true → pl n e = true → Rp X.K G d v → Rp X.K G e w → RelV v u → RelV w u' → A.units + n < cLine → EqAt A s u u' (eqD d e) := by
  have flat : ∀ (A : Around) (d e : D) (v w : V) (u u' : Value), RelV v u → RelV w u' → flatV v = true → flatV w = true → eqV v w = eqD d e → EqAt A s u u' (eqD d e) := fun A d e v w u u' r1 r2 f1 f2 q => q ▸ eqAt_V r1 r2 f1 f2
  induction n with
  | zero =>
    intro d e A v w u u' h1 h2 r1 r2 q1 q2 hu
    cases d <;> first | (exact absurd h1 Bool.false_ne_true) | skip
    all_goals cases e <;> first | (exact absurd h2 Bool.false_ne_true) | skip
    all_goals (have z1 := (show v = _ from r1); have z2 := (show w = _ from r2); subst z1 z2; exact flat A _ _ _ _ _ _ q1 q2 rfl rfl rfl)
  | succ n ih =>
    intro d e A v w u u' h1 h2 r1 r2 q1 q2 hu
    have hu0 : A.units < cLine := by omega
    have lstf : ∀ {ds : List D} {e : D}, Rp X.K G (.lst ds) v → fl e = true → Rp X.K G e w → RelV v u → RelV w u' → EqAt A s u u' false := fun {ds e} r1 f r2 q1 q2 => by
      obtain ⟨a, xs, rfl, a1, a2⟩ := r1
      cases q1
      obtain ⟨its, t1, t2, _⟩ := I.list (.inl (fz.rd nz a1))
      exact (list_flat t2.isList hu0 q2 (fl_v f r2)).1
    have tupf : ∀ {ds : List D} {e : D}, Rp X.K G (.tup ds) v → fl e = true → Rp X.K G e w → RelV v u → RelV w u' → EqAt A s u u' false := fun {ds e} r1 f r2 q1 q2 => by
      obtain ⟨a, xs, rfl, a1, a2⟩ := r1
      cases q1
      obtain ⟨its, t1, t2, _⟩ := I.tuple (sqT_mono fz nz a1)
      exact (tup_flat t2 hu0 q2 (fl_v f r2)).1
    have flst : ∀ {ds : List D} {e : D}, Rp X.K G e v → fl e = true → Rp X.K G (.lst ds) w → RelV v u → RelV w u' → EqAt A s u u' false := fun {ds e} r1 f r2 q1 q2 => by
      obtain ⟨a, xs, rfl, a1, a2⟩ := r2
      cases q2
      obtain ⟨its, t1, t2, _⟩ := I.list (.inl (fz.rd nz a1))
      exact (list_flat t2.isList hu0 q1 (fl_v f r1)).2
    have ftup : ∀ {ds : List D} {e : D}, Rp X.K G e v → fl e = true → Rp X.K G (.tup ds) w → RelV v u → RelV w u' → EqAt A s u u' false := fun {ds e} r1 f r2 q1 q2 => by
      obtain ⟨a, xs, rfl, a1, a2⟩ := r2
      cases q2
      obtain ⟨its, t1, t2, _⟩ := I.tuple (sqT_mono fz nz a1)
      exact (tup_flat t2 hu0 q1 (fl_v f r1)).2
    cases d <;> first | (exact absurd h1 Bool.false_ne_true) | skip
    all_goals cases e <;> first | (exact absurd h2 Bool.false_ne_true) | skip
    case lst.lst ds es =>
      by_cases hab : v = w
      · subst hab
        have hue : u = u' := by
          obtain ⟨a, xs, rfl, _⟩ := r1
          rw [show u = Value.ref a from q1, show u' = Value.ref a from q2]
        subst hue
        rw [eqD_same I fz nz (n + 1) _ _ v h1 h2 r1 r2]
        exact EqAt.same _
      · obtain ⟨a, xs, rfl, a1, a2⟩ := r1
        obtain ⟨b, ys, rfl, b1, b2⟩ := r2
        cases q1
        cases q2
        obtain ⟨its, t1, t2, _⟩ := I.list (.inl (fz.rd nz a1))
        obtain ⟨its2, t3, t4, _⟩ := I.list (.inl (fz.rd nz b1))
        have l1 : its.toArray.size = ds.length := by rw [List.size_toArray, ← t1.length, rpl_len a2]
        have l2 : its2.toArray.size = es.length := by rw [List.size_toArray, ← t3.length, rpl_len b2]
        show EqAt A s _ _ (eqL ds es)
        by_cases hl : ds.length = es.length
        · rw [eqL_all ds es hl, ← l1]
          exact EqAt.of_refs (fun z => hab (by rw [z])) (RcAt.lists t2.isList t4.isList (by omega) hu0 (items_eq ih h1 h2 a2 b2 t1 t3 hu))
        · rw [eqL_ne hl]
          exact EqAt.of_refs (fun z => hab (by rw [z])) (RcAt.lists_lengths t2.isList t4.isList (by simp only [bne_iff_ne]; omega) hu0)
    case tup.tup ds es =>
      by_cases hab : v = w
      · subst hab
        have hue : u = u' := by
          obtain ⟨a, xs, rfl, _⟩ := r1
          rw [show u = Value.ref a from q1, show u' = Value.ref a from q2]
        subst hue
        rw [eqD_same I fz nz (n + 1) _ _ v h1 h2 r1 r2]
        exact EqAt.same _
      · obtain ⟨a, xs, rfl, a1, a2⟩ := r1
        obtain ⟨b, ys, rfl, b1, b2⟩ := r2
        cases q1
        cases q2
        obtain ⟨its, t1, t2, _⟩ := I.tuple (sqT_mono fz nz a1)
        obtain ⟨its2, t3, t4, _⟩ := I.tuple (sqT_mono fz nz b1)
        have l1 : its.toArray.size = ds.length := by rw [List.size_toArray, ← t1.length, rpl_len a2]
        have l2 : its2.toArray.size = es.length := by rw [List.size_toArray, ← t3.length, rpl_len b2]
        have main := RcAt.tuples t2 t4 hu0 (items_eq ih h1 h2 a2 b2 t1 t3 hu)
        have key : ((List.range (min its.toArray.size its2.toArray.size)).all (fun j => eqD (ds.getD j .non) (es.getD j .non)) && its.toArray.size == its2.toArray.size) = eqL ds es := by
          by_cases hl : ds.length = es.length
          · rw [eqL_all ds es hl, l1, l2, hl]
            simp
          · rw [eqL_ne hl, l1, l2]
            simp [hl]
        rw [key] at main
        exact EqAt.of_refs (fun z => hab (by rw [z])) main
    case lst.tup ds es =>
      obtain ⟨a, xs, rfl, a1, a2⟩ := r1
      obtain ⟨b, ys, rfl, b1, b2⟩ := r2
      cases q1
      cases q2
      obtain ⟨its, t1, t2, _⟩ := I.list (.inl (fz.rd nz a1))
      obtain ⟨its2, t3, t4, _⟩ := I.tuple (sqT_mono fz nz b1)
      exact EqAt.list_tuple t2.isList t4 hu0
    case tup.lst ds es =>
      obtain ⟨a, xs, rfl, a1, a2⟩ := r1
      obtain ⟨b, ys, rfl, b1, b2⟩ := r2
      cases q1
      cases q2
      obtain ⟨its, t1, t2, _⟩ := I.tuple (sqT_mono fz nz a1)
      obtain ⟨its2, t3, t4, _⟩ := I.list (.inl (fz.rd nz b1))
      exact EqAt.tuple_list t2 t4.isList hu0
    case lst.non => exact lstf r1 rfl r2 q1 q2
    case lst.bl => exact lstf r1 rfl r2 q1 q2
    case lst.int => exact lstf r1 rfl r2 q1 q2
    case lst.str => exact lstf r1 rfl r2 q1 q2
    case tup.non => exact tupf r1 rfl r2 q1 q2
    case tup.bl => exact tupf r1 rfl r2 q1 q2
    case tup.int => exact tupf r1 rfl r2 q1 q2
    case tup.str => exact tupf r1 rfl r2 q1 q2
    case non.lst => exact flst r1 rfl r2 q1 q2
    case bl.lst => exact flst r1 rfl r2 q1 q2
    case int.lst => exact flst r1 rfl r2 q1 q2
    case str.lst => exact flst r1 rfl r2 q1 q2
    case non.tup => exact ftup r1 rfl r2 q1 q2
    case bl.tup => exact ftup r1 rfl r2 q1 q2
    case int.tup => exact ftup r1 rfl r2 q1 q2
    case str.tup => exact ftup r1 rfl r2 q1 q2
    all_goals (have z1 := (show v = _ from r1); have z2 := (show w = _ from r2); subst z1 z2; exact flat A _ _ _ _ _ _ q1 q2 rfl rfl rfl)
end
end DL

/-! DQ: == and != of data, at the top (printed by gen_eq.py, own work). -/
namespace DL
open PySem L2 PySem.SeqAt
section
variable {X : Cx} {pins : List (Addr × Obj)} {sg : L2.St} {H G : Hp} {s : Shared}

theorem rc_flat {A : Around} : ∀ {v w : V} {u u' : Value}, RelV v u → RelV w u' → flatV v = true → flatV w = true → RcAt A s u u' (eqV v w)
  | .non, .non, u, u', r1, r2, _, _ => by
    cases r1
    cases r2
    exact RcAt.none_none
  | .non, .bl b2, u, u', r1, r2, _, _ => by
    cases r1
    cases r2
    exact RcAt.none_bool b2
  | .non, .int i2, u, u', r1, r2, _, _ => by
    cases r1
    obtain ⟨t2, rfl⟩ := r2
    exact RcAt.none_int i2 t2
  | .non, .str z2, u, u', r1, r2, _, _ => by
    cases r1
    obtain ⟨t2, rfl⟩ := r2
    exact RcAt.none_str z2 t2
  | .bl b1, .non, u, u', r1, r2, _, _ => by
    cases r1
    cases r2
    exact RcAt.bool_none b1
  | .bl b1, .bl b2, u, u', r1, r2, _, _ => by
    cases r1
    cases r2
    exact RcAt.bool_bool b1 b2
  | .bl b1, .int i2, u, u', r1, r2, _, _ => by
    cases r1
    obtain ⟨t2, rfl⟩ := r2
    exact RcAt.bool_int b1 i2 t2
  | .bl b1, .str z2, u, u', r1, r2, _, _ => by
    cases r1
    obtain ⟨t2, rfl⟩ := r2
    exact RcAt.bool_str b1 z2 t2
  | .int i1, .non, u, u', r1, r2, _, _ => by
    obtain ⟨t1, rfl⟩ := r1
    cases r2
    exact RcAt.int_none i1 t1
  | .int i1, .bl b2, u, u', r1, r2, _, _ => by
    obtain ⟨t1, rfl⟩ := r1
    cases r2
    exact RcAt.int_bool i1 t1 b2
  | .int i1, .int i2, u, u', r1, r2, _, _ => by
    obtain ⟨t1, rfl⟩ := r1
    obtain ⟨t2, rfl⟩ := r2
    exact RcAt.int_int i1 t1 i2 t2
  | .int i1, .str z2, u, u', r1, r2, _, _ => by
    obtain ⟨t1, rfl⟩ := r1
    obtain ⟨t2, rfl⟩ := r2
    exact RcAt.int_str i1 t1 z2 t2
  | .str z1, .non, u, u', r1, r2, _, _ => by
    obtain ⟨t1, rfl⟩ := r1
    cases r2
    exact RcAt.str_none z1 t1
  | .str z1, .bl b2, u, u', r1, r2, _, _ => by
    obtain ⟨t1, rfl⟩ := r1
    cases r2
    exact RcAt.str_bool z1 t1 b2
  | .str z1, .int i2, u, u', r1, r2, _, _ => by
    obtain ⟨t1, rfl⟩ := r1
    obtain ⟨t2, rfl⟩ := r2
    exact RcAt.str_int z1 t1 i2 t2
  | .str z1, .str z2, u, u', r1, r2, _, _ => by
    obtain ⟨t1, rfl⟩ := r1
    obtain ⟨t2, rfl⟩ := r2
    exact RcAt.str_str z1 t1 z2 t2
  | .byt _, _, _, _, _, _, f, _ => absurd f Bool.false_ne_true
  | .flt _, _, _, _, _, _, f, _ => absurd f Bool.false_ne_true
  | .ref _, _, _, _, _, _, f, _ => absurd f Bool.false_ne_true
  | .ty _, _, _, _, _, _, f, _ => absurd f Bool.false_ne_true
  | .non, .byt _, _, _, _, _, _, f => absurd f Bool.false_ne_true
  | .bl _, .byt _, _, _, _, _, _, f => absurd f Bool.false_ne_true
  | .int _, .byt _, _, _, _, _, _, f => absurd f Bool.false_ne_true
  | .str _, .byt _, _, _, _, _, _, f => absurd f Bool.false_ne_true
  | .non, .flt _, _, _, _, _, _, f => absurd f Bool.false_ne_true
  | .bl _, .flt _, _, _, _, _, _, f => absurd f Bool.false_ne_true
  | .int _, .flt _, _, _, _, _, _, f => absurd f Bool.false_ne_true
  | .str _, .flt _, _, _, _, _, _, f => absurd f Bool.false_ne_true
  | .non, .ref _, _, _, _, _, _, f => absurd f Bool.false_ne_true
  | .bl _, .ref _, _, _, _, _, _, f => absurd f Bool.false_ne_true
  | .int _, .ref _, _, _, _, _, _, f => absurd f Bool.false_ne_true
  | .str _, .ref _, _, _, _, _, _, f => absurd f Bool.false_ne_true
  | .non, .ty _, _, _, _, _, _, f => absurd f Bool.false_ne_true
  | .bl _, .ty _, _, _, _, _, _, f => absurd f Bool.false_ne_true
  | .int _, .ty _, _, _, _, _, _, f => absurd f Bool.false_ne_true
  | .str _, .ty _, _, _, _, _, _, f => absurd f Bool.false_ne_true
theorem rc_list {A : Around} {a : Addr} {its : Array Value} (h : s.heap.IsList a its) (hu : A.units < cLine) : ∀ {w : V} {u : Value}, RelV w u → flatV w = true → RcAt A s (.ref a) u false ∧ RcAt A s u (.ref a) false
  | .non, u, r, _ => by
    cases r
    exact ⟨RcAt.list_none h hu, RcAt.none_list h hu⟩
  | .bl b2, u, r, _ => by
    cases r
    exact ⟨RcAt.list_bool b2 h hu, RcAt.bool_list b2 h hu⟩
  | .int i2, u, r, _ => by
    obtain ⟨t2, rfl⟩ := r
    exact ⟨RcAt.list_int i2 t2 h hu, RcAt.int_list i2 t2 h hu⟩
  | .str z2, u, r, _ => by
    obtain ⟨t2, rfl⟩ := r
    exact ⟨RcAt.list_str z2 t2 h hu, RcAt.str_list z2 t2 h hu⟩
  | .byt _, _, _, f => absurd f Bool.false_ne_true
  | .flt _, _, _, f => absurd f Bool.false_ne_true
  | .ref _, _, _, f => absurd f Bool.false_ne_true
  | .ty _, _, _, f => absurd f Bool.false_ne_true
theorem rc_tuple {A : Around} {a : Addr} {its : Array Value} (h : s.heap.IsTuple a its) (hu : A.units < cLine) : ∀ {w : V} {u : Value}, RelV w u → flatV w = true → RcAt A s (.ref a) u false ∧ RcAt A s u (.ref a) false
  | .non, u, r, _ => by
    cases r
    exact ⟨RcAt.tuple_none h hu, RcAt.none_tuple h hu⟩
  | .bl b2, u, r, _ => by
    cases r
    exact ⟨RcAt.tuple_bool b2 h hu, RcAt.bool_tuple b2 h hu⟩
  | .int i2, u, r, _ => by
    obtain ⟨t2, rfl⟩ := r
    exact ⟨RcAt.tuple_int i2 t2 h hu, RcAt.int_tuple i2 t2 h hu⟩
  | .str z2, u, r, _ => by
    obtain ⟨t2, rfl⟩ := r
    exact ⟨RcAt.tuple_str z2 t2 h hu, RcAt.str_tuple z2 t2 h hu⟩
  | .byt _, _, _, f => absurd f Bool.false_ne_true
  | .flt _, _, _, f => absurd f Bool.false_ne_true
  | .ref _, _, _, f => absurd f Bool.false_ne_true
  | .ty _, _, _, f => absurd f Bool.false_ne_true
theorem rc_D (I : Inv X pins sg H s) (fz : Exz G H) (nz : Nz G) (n : Nat) (d e : D) (A : Around) (v w : V) (u u' : Value) (h1 : pl (n + 1) d = true) (h2 : pl (n + 1) e = true) (r1 : Rp X.K G d v) (r2 : Rp X.K G e w) (q1 : RelV v u) (q2 : RelV w u') (hu : A.units + (n + 1) < cLine) : RcAt A s u u' (eqD d e) := by
  have hu0 : A.units < cLine := by omega
  have ih := eqAt_D (X := X) I fz nz n
  have lstf : ∀ {ds : List D} {e : D}, Rp X.K G (.lst ds) v → fl e = true → Rp X.K G e w → RcAt A s u u' false := fun {ds e} r1 f r2 => by
    obtain ⟨a, xs, rfl, a1, a2⟩ := r1
    cases q1
    obtain ⟨its, t1, t2, _⟩ := I.list (.inl (fz.rd nz a1))
    exact (rc_list t2.isList hu0 q2 (fl_v f r2)).1
  have tupf : ∀ {ds : List D} {e : D}, Rp X.K G (.tup ds) v → fl e = true → Rp X.K G e w → RcAt A s u u' false := fun {ds e} r1 f r2 => by
    obtain ⟨a, xs, rfl, a1, a2⟩ := r1
    cases q1
    obtain ⟨its, t1, t2, _⟩ := I.tuple (sqT_mono fz nz a1)
    exact (rc_tuple t2 hu0 q2 (fl_v f r2)).1
  have flst : ∀ {ds : List D} {e : D}, Rp X.K G e v → fl e = true → Rp X.K G (.lst ds) w → RcAt A s u u' false := fun {ds e} r1 f r2 => by
    obtain ⟨a, xs, rfl, a1, a2⟩ := r2
    cases q2
    obtain ⟨its, t1, t2, _⟩ := I.list (.inl (fz.rd nz a1))
    exact (rc_list t2.isList hu0 q1 (fl_v f r1)).2
  have ftup : ∀ {ds : List D} {e : D}, Rp X.K G e v → fl e = true → Rp X.K G (.tup ds) w → RcAt A s u u' false := fun {ds e} r1 f r2 => by
    obtain ⟨a, xs, rfl, a1, a2⟩ := r2
    cases q2
    obtain ⟨its, t1, t2, _⟩ := I.tuple (sqT_mono fz nz a1)
    exact (rc_tuple t2 hu0 q1 (fl_v f r1)).2
  have flat : ∀ {d e : D}, fl d = true → fl e = true → Rp X.K G d v → Rp X.K G e w → RcAt A s u u' (eqD d e) := fun {d e} f1 f2 r1 r2 => by
    have z := rc_flat (A := A) (s := s) q1 q2 (fl_v f1 r1) (fl_v f2 r2)
    rw [fl_eq f1 f2 r1 r2] at z
    exact z
  cases d <;> first | (exact absurd h1 Bool.false_ne_true) | skip
  all_goals cases e <;> first | (exact absurd h2 Bool.false_ne_true) | skip
  case lst.lst ds es =>
    obtain ⟨a, xs, rfl, a1, a2⟩ := r1
    obtain ⟨b, ys, rfl, b1, b2⟩ := r2
    cases q1
    cases q2
    obtain ⟨its, t1, t2, _⟩ := I.list (.inl (fz.rd nz a1))
    obtain ⟨its2, t3, t4, _⟩ := I.list (.inl (fz.rd nz b1))
    have l1 : its.toArray.size = ds.length := by rw [List.size_toArray, ← t1.length, rpl_len a2]
    have l2 : its2.toArray.size = es.length := by rw [List.size_toArray, ← t3.length, rpl_len b2]
    show RcAt A s _ _ (eqL ds es)
    by_cases hl : ds.length = es.length
    · rw [eqL_all ds es hl, ← l1]
      exact RcAt.lists t2.isList t4.isList (by omega) hu0 (items_eq ih h1 h2 a2 b2 t1 t3 hu)
    · rw [eqL_ne hl]
      exact RcAt.lists_lengths t2.isList t4.isList (by simp only [bne_iff_ne]; omega) hu0
  case tup.tup ds es =>
    obtain ⟨a, xs, rfl, a1, a2⟩ := r1
    obtain ⟨b, ys, rfl, b1, b2⟩ := r2
    cases q1
    cases q2
    obtain ⟨its, t1, t2, _⟩ := I.tuple (sqT_mono fz nz a1)
    obtain ⟨its2, t3, t4, _⟩ := I.tuple (sqT_mono fz nz b1)
    have l1 : its.toArray.size = ds.length := by rw [List.size_toArray, ← t1.length, rpl_len a2]
    have l2 : its2.toArray.size = es.length := by rw [List.size_toArray, ← t3.length, rpl_len b2]
    have main := RcAt.tuples t2 t4 hu0 (items_eq ih h1 h2 a2 b2 t1 t3 hu)
    have key : ((List.range (min its.toArray.size its2.toArray.size)).all (fun j => eqD (ds.getD j .non) (es.getD j .non)) && its.toArray.size == its2.toArray.size) = eqL ds es := by
      by_cases hl : ds.length = es.length
      · rw [eqL_all ds es hl, l1, l2, hl]
        simp
      · rw [eqL_ne hl, l1, l2]
        simp [hl]
    rw [key] at main
    exact main
  case lst.tup ds es =>
    obtain ⟨a, xs, rfl, a1, a2⟩ := r1
    obtain ⟨b, ys, rfl, b1, b2⟩ := r2
    cases q1
    cases q2
    obtain ⟨its, t1, t2, _⟩ := I.list (.inl (fz.rd nz a1))
    obtain ⟨its2, t3, t4, _⟩ := I.tuple (sqT_mono fz nz b1)
    exact RcAt.list_tuple t2.isList t4 hu0
  case tup.lst ds es =>
    obtain ⟨a, xs, rfl, a1, a2⟩ := r1
    obtain ⟨b, ys, rfl, b1, b2⟩ := r2
    cases q1
    cases q2
    obtain ⟨its, t1, t2, _⟩ := I.tuple (sqT_mono fz nz a1)
    obtain ⟨its2, t3, t4, _⟩ := I.list (.inl (fz.rd nz b1))
    exact RcAt.tuple_list t2 t4.isList hu0
  case lst.non => exact lstf r1 rfl r2
  case tup.non => exact tupf r1 rfl r2
  case non.lst => exact flst r1 rfl r2
  case non.tup => exact ftup r1 rfl r2
  case lst.bl => exact lstf r1 rfl r2
  case tup.bl => exact tupf r1 rfl r2
  case bl.lst => exact flst r1 rfl r2
  case bl.tup => exact ftup r1 rfl r2
  case lst.int => exact lstf r1 rfl r2
  case tup.int => exact tupf r1 rfl r2
  case int.lst => exact flst r1 rfl r2
  case int.tup => exact ftup r1 rfl r2
  case lst.str => exact lstf r1 rfl r2
  case tup.str => exact tupf r1 rfl r2
  case str.lst => exact flst r1 rfl r2
  case str.tup => exact ftup r1 rfl r2
  all_goals exact flat rfl rfl r1 r2
theorem rn_flat {A : Around} : ∀ {v w : V} {u u' : Value}, RelV v u → RelV w u' → flatV v = true → flatV w = true → RcNeAt A s u u' (!eqV v w)
  | .non, .non, u, u', r1, r2, _, _ => by
    cases r1
    cases r2
    exact RcNeAt.none_none
  | .non, .bl b2, u, u', r1, r2, _, _ => by
    cases r1
    cases r2
    exact RcNeAt.none_bool b2
  | .non, .int i2, u, u', r1, r2, _, _ => by
    cases r1
    obtain ⟨t2, rfl⟩ := r2
    exact RcNeAt.none_int i2 t2
  | .non, .str z2, u, u', r1, r2, _, _ => by
    cases r1
    obtain ⟨t2, rfl⟩ := r2
    exact RcNeAt.none_str z2 t2
  | .bl b1, .non, u, u', r1, r2, _, _ => by
    cases r1
    cases r2
    exact RcNeAt.bool_none b1
  | .bl b1, .bl b2, u, u', r1, r2, _, _ => by
    cases r1
    cases r2
    exact RcNeAt.bool_bool b1 b2
  | .bl b1, .int i2, u, u', r1, r2, _, _ => by
    cases r1
    obtain ⟨t2, rfl⟩ := r2
    exact RcNeAt.bool_int b1 i2 t2
  | .bl b1, .str z2, u, u', r1, r2, _, _ => by
    cases r1
    obtain ⟨t2, rfl⟩ := r2
    exact RcNeAt.bool_str b1 z2 t2
  | .int i1, .non, u, u', r1, r2, _, _ => by
    obtain ⟨t1, rfl⟩ := r1
    cases r2
    exact RcNeAt.int_none i1 t1
  | .int i1, .bl b2, u, u', r1, r2, _, _ => by
    obtain ⟨t1, rfl⟩ := r1
    cases r2
    exact RcNeAt.int_bool i1 t1 b2
  | .int i1, .int i2, u, u', r1, r2, _, _ => by
    obtain ⟨t1, rfl⟩ := r1
    obtain ⟨t2, rfl⟩ := r2
    exact RcNeAt.int_int i1 t1 i2 t2
  | .int i1, .str z2, u, u', r1, r2, _, _ => by
    obtain ⟨t1, rfl⟩ := r1
    obtain ⟨t2, rfl⟩ := r2
    exact RcNeAt.int_str i1 t1 z2 t2
  | .str z1, .non, u, u', r1, r2, _, _ => by
    obtain ⟨t1, rfl⟩ := r1
    cases r2
    exact RcNeAt.str_none z1 t1
  | .str z1, .bl b2, u, u', r1, r2, _, _ => by
    obtain ⟨t1, rfl⟩ := r1
    cases r2
    exact RcNeAt.str_bool z1 t1 b2
  | .str z1, .int i2, u, u', r1, r2, _, _ => by
    obtain ⟨t1, rfl⟩ := r1
    obtain ⟨t2, rfl⟩ := r2
    exact RcNeAt.str_int z1 t1 i2 t2
  | .str z1, .str z2, u, u', r1, r2, _, _ => by
    obtain ⟨t1, rfl⟩ := r1
    obtain ⟨t2, rfl⟩ := r2
    exact RcNeAt.str_str z1 t1 z2 t2
  | .byt _, _, _, _, _, _, f, _ => absurd f Bool.false_ne_true
  | .flt _, _, _, _, _, _, f, _ => absurd f Bool.false_ne_true
  | .ref _, _, _, _, _, _, f, _ => absurd f Bool.false_ne_true
  | .ty _, _, _, _, _, _, f, _ => absurd f Bool.false_ne_true
  | .non, .byt _, _, _, _, _, _, f => absurd f Bool.false_ne_true
  | .bl _, .byt _, _, _, _, _, _, f => absurd f Bool.false_ne_true
  | .int _, .byt _, _, _, _, _, _, f => absurd f Bool.false_ne_true
  | .str _, .byt _, _, _, _, _, _, f => absurd f Bool.false_ne_true
  | .non, .flt _, _, _, _, _, _, f => absurd f Bool.false_ne_true
  | .bl _, .flt _, _, _, _, _, _, f => absurd f Bool.false_ne_true
  | .int _, .flt _, _, _, _, _, _, f => absurd f Bool.false_ne_true
  | .str _, .flt _, _, _, _, _, _, f => absurd f Bool.false_ne_true
  | .non, .ref _, _, _, _, _, _, f => absurd f Bool.false_ne_true
  | .bl _, .ref _, _, _, _, _, _, f => absurd f Bool.false_ne_true
  | .int _, .ref _, _, _, _, _, _, f => absurd f Bool.false_ne_true
  | .str _, .ref _, _, _, _, _, _, f => absurd f Bool.false_ne_true
  | .non, .ty _, _, _, _, _, _, f => absurd f Bool.false_ne_true
  | .bl _, .ty _, _, _, _, _, _, f => absurd f Bool.false_ne_true
  | .int _, .ty _, _, _, _, _, _, f => absurd f Bool.false_ne_true
  | .str _, .ty _, _, _, _, _, _, f => absurd f Bool.false_ne_true
theorem rn_list {A : Around} {a : Addr} {its : Array Value} (h : s.heap.IsList a its) (hu : A.units < cLine) : ∀ {w : V} {u : Value}, RelV w u → flatV w = true → RcNeAt A s (.ref a) u true ∧ RcNeAt A s u (.ref a) true
  | .non, u, r, _ => by
    cases r
    exact ⟨RcNeAt.list_none h hu, RcNeAt.none_list h hu⟩
  | .bl b2, u, r, _ => by
    cases r
    exact ⟨RcNeAt.list_bool b2 h hu, RcNeAt.bool_list b2 h hu⟩
  | .int i2, u, r, _ => by
    obtain ⟨t2, rfl⟩ := r
    exact ⟨RcNeAt.list_int i2 t2 h hu, RcNeAt.int_list i2 t2 h hu⟩
  | .str z2, u, r, _ => by
    obtain ⟨t2, rfl⟩ := r
    exact ⟨RcNeAt.list_str z2 t2 h hu, RcNeAt.str_list z2 t2 h hu⟩
  | .byt _, _, _, f => absurd f Bool.false_ne_true
  | .flt _, _, _, f => absurd f Bool.false_ne_true
  | .ref _, _, _, f => absurd f Bool.false_ne_true
  | .ty _, _, _, f => absurd f Bool.false_ne_true
theorem rn_tuple {A : Around} {a : Addr} {its : Array Value} (h : s.heap.IsTuple a its) (hu : A.units < cLine) : ∀ {w : V} {u : Value}, RelV w u → flatV w = true → RcNeAt A s (.ref a) u true ∧ RcNeAt A s u (.ref a) true
  | .non, u, r, _ => by
    cases r
    exact ⟨RcNeAt.tuple_none h hu, RcNeAt.none_tuple h hu⟩
  | .bl b2, u, r, _ => by
    cases r
    exact ⟨RcNeAt.tuple_bool b2 h hu, RcNeAt.bool_tuple b2 h hu⟩
  | .int i2, u, r, _ => by
    obtain ⟨t2, rfl⟩ := r
    exact ⟨RcNeAt.tuple_int i2 t2 h hu, RcNeAt.int_tuple i2 t2 h hu⟩
  | .str z2, u, r, _ => by
    obtain ⟨t2, rfl⟩ := r
    exact ⟨RcNeAt.tuple_str z2 t2 h hu, RcNeAt.str_tuple z2 t2 h hu⟩
  | .byt _, _, _, f => absurd f Bool.false_ne_true
  | .flt _, _, _, f => absurd f Bool.false_ne_true
  | .ref _, _, _, f => absurd f Bool.false_ne_true
  | .ty _, _, _, f => absurd f Bool.false_ne_true
theorem rn_D (I : Inv X pins sg H s) (fz : Exz G H) (nz : Nz G) (n : Nat) (d e : D) (A : Around) (v w : V) (u u' : Value) (h1 : pl (n + 1) d = true) (h2 : pl (n + 1) e = true) (r1 : Rp X.K G d v) (r2 : Rp X.K G e w) (q1 : RelV v u) (q2 : RelV w u') (hu : A.units + (n + 1) < cLine) : RcNeAt A s u u' (!eqD d e) := by
  have hu0 : A.units < cLine := by omega
  have ih := eqAt_D (X := X) I fz nz n
  have lstf : ∀ {ds : List D} {e : D}, Rp X.K G (.lst ds) v → fl e = true → Rp X.K G e w → RcNeAt A s u u' true := fun {ds e} r1 f r2 => by
    obtain ⟨a, xs, rfl, a1, a2⟩ := r1
    cases q1
    obtain ⟨its, t1, t2, _⟩ := I.list (.inl (fz.rd nz a1))
    exact (rn_list t2.isList hu0 q2 (fl_v f r2)).1
  have tupf : ∀ {ds : List D} {e : D}, Rp X.K G (.tup ds) v → fl e = true → Rp X.K G e w → RcNeAt A s u u' true := fun {ds e} r1 f r2 => by
    obtain ⟨a, xs, rfl, a1, a2⟩ := r1
    cases q1
    obtain ⟨its, t1, t2, _⟩ := I.tuple (sqT_mono fz nz a1)
    exact (rn_tuple t2 hu0 q2 (fl_v f r2)).1
  have flst : ∀ {ds : List D} {e : D}, Rp X.K G e v → fl e = true → Rp X.K G (.lst ds) w → RcNeAt A s u u' true := fun {ds e} r1 f r2 => by
    obtain ⟨a, xs, rfl, a1, a2⟩ := r2
    cases q2
    obtain ⟨its, t1, t2, _⟩ := I.list (.inl (fz.rd nz a1))
    exact (rn_list t2.isList hu0 q1 (fl_v f r1)).2
  have ftup : ∀ {ds : List D} {e : D}, Rp X.K G e v → fl e = true → Rp X.K G (.tup ds) w → RcNeAt A s u u' true := fun {ds e} r1 f r2 => by
    obtain ⟨a, xs, rfl, a1, a2⟩ := r2
    cases q2
    obtain ⟨its, t1, t2, _⟩ := I.tuple (sqT_mono fz nz a1)
    exact (rn_tuple t2 hu0 q1 (fl_v f r1)).2
  have flat : ∀ {d e : D}, fl d = true → fl e = true → Rp X.K G d v → Rp X.K G e w → RcNeAt A s u u' (!eqD d e) := fun {d e} f1 f2 r1 r2 => by
    have z := rn_flat (A := A) (s := s) q1 q2 (fl_v f1 r1) (fl_v f2 r2)
    rw [fl_eq f1 f2 r1 r2] at z
    exact z
  cases d <;> first | (exact absurd h1 Bool.false_ne_true) | skip
  all_goals cases e <;> first | (exact absurd h2 Bool.false_ne_true) | skip
  case lst.lst ds es =>
    obtain ⟨a, xs, rfl, a1, a2⟩ := r1
    obtain ⟨b, ys, rfl, b1, b2⟩ := r2
    cases q1
    cases q2
    obtain ⟨its, t1, t2, _⟩ := I.list (.inl (fz.rd nz a1))
    obtain ⟨its2, t3, t4, _⟩ := I.list (.inl (fz.rd nz b1))
    have l1 : its.toArray.size = ds.length := by rw [List.size_toArray, ← t1.length, rpl_len a2]
    have l2 : its2.toArray.size = es.length := by rw [List.size_toArray, ← t3.length, rpl_len b2]
    show RcNeAt A s _ _ (!eqL ds es)
    by_cases hl : ds.length = es.length
    · rw [eqL_all ds es hl, ← l1]
      exact RcNeAt.lists t2.isList t4.isList (by omega) hu0 (items_eq ih h1 h2 a2 b2 t1 t3 hu)
    · rw [eqL_ne hl]
      exact RcNeAt.lists_lengths t2.isList t4.isList (by simp only [bne_iff_ne]; omega) hu0
  case tup.tup ds es =>
    obtain ⟨a, xs, rfl, a1, a2⟩ := r1
    obtain ⟨b, ys, rfl, b1, b2⟩ := r2
    cases q1
    cases q2
    obtain ⟨its, t1, t2, _⟩ := I.tuple (sqT_mono fz nz a1)
    obtain ⟨its2, t3, t4, _⟩ := I.tuple (sqT_mono fz nz b1)
    have l1 : its.toArray.size = ds.length := by rw [List.size_toArray, ← t1.length, rpl_len a2]
    have l2 : its2.toArray.size = es.length := by rw [List.size_toArray, ← t3.length, rpl_len b2]
    have main := RcNeAt.tuples t2 t4 hu0 (items_eq ih h1 h2 a2 b2 t1 t3 hu)
    have key : ((List.range (min its.toArray.size its2.toArray.size)).all (fun j => eqD (ds.getD j .non) (es.getD j .non)) && its.toArray.size == its2.toArray.size) = eqL ds es := by
      by_cases hl : ds.length = es.length
      · rw [eqL_all ds es hl, l1, l2, hl]
        simp
      · rw [eqL_ne hl, l1, l2]
        simp [hl]
    rw [key] at main
    exact main
  case lst.tup ds es =>
    obtain ⟨a, xs, rfl, a1, a2⟩ := r1
    obtain ⟨b, ys, rfl, b1, b2⟩ := r2
    cases q1
    cases q2
    obtain ⟨its, t1, t2, _⟩ := I.list (.inl (fz.rd nz a1))
    obtain ⟨its2, t3, t4, _⟩ := I.tuple (sqT_mono fz nz b1)
    exact RcNeAt.list_tuple t2.isList t4 hu0
  case tup.lst ds es =>
    obtain ⟨a, xs, rfl, a1, a2⟩ := r1
    obtain ⟨b, ys, rfl, b1, b2⟩ := r2
    cases q1
    cases q2
    obtain ⟨its, t1, t2, _⟩ := I.tuple (sqT_mono fz nz a1)
    obtain ⟨its2, t3, t4, _⟩ := I.list (.inl (fz.rd nz b1))
    exact RcNeAt.tuple_list t2 t4.isList hu0
  case lst.non => exact lstf r1 rfl r2
  case tup.non => exact tupf r1 rfl r2
  case non.lst => exact flst r1 rfl r2
  case non.tup => exact ftup r1 rfl r2
  case lst.bl => exact lstf r1 rfl r2
  case tup.bl => exact tupf r1 rfl r2
  case bl.lst => exact flst r1 rfl r2
  case bl.tup => exact ftup r1 rfl r2
  case lst.int => exact lstf r1 rfl r2
  case tup.int => exact tupf r1 rfl r2
  case int.lst => exact flst r1 rfl r2
  case int.tup => exact ftup r1 rfl r2
  case lst.str => exact lstf r1 rfl r2
  case tup.str => exact tupf r1 rfl r2
  case str.lst => exact flst r1 rfl r2
  case str.tup => exact ftup r1 rfl r2
  all_goals exact flat rfl rfl r1 r2
/-- == and != of plain data -/
def rEqP (K : PySem.W.Frag) (neg : Bool) : R2 := fun x y H Q => ∃ (n : Nat) (G : Hp) (d e : D), Exz G H ∧ Nz G ∧ n ≤ 60 ∧ pl (n + 1) d = true ∧ pl (n + 1) e = true ∧ Rp K G d x ∧ Rp K G e y ∧ Q (.bl (if neg then !eqD d e else eqD d e)) H
theorem op_eqP (hu : X.A.units + 64 < cLine) : OpR X (compareOp .Eq) (rEqP X.K false) := by
  intro pins s sg H x y v u Q I rx ry h
  obtain ⟨n, G, d, e, fz, nz, hn, p1, p2, r1, r2, q⟩ := h
  exact rc_D I fz nz n d e X.A x y v u p1 p2 r1 r2 rx ry (by omega) X.prog X.w X.xe _ ⟨.bl _, H, I, rfl, q⟩
theorem op_neP (hu : X.A.units + 64 < cLine) : OpR X (compareOp .NotEq) (rEqP X.K true) := by
  intro pins s sg H x y v u Q I rx ry h
  obtain ⟨n, G, d, e, fz, nz, hn, p1, p2, r1, r2, q⟩ := h
  exact rn_D I fz nz n d e X.A x y v u p1 p2 r1 r2 rx ry (by omega) X.prog X.w X.xe _ ⟨.bl _, H, I, rfl, q⟩
end
/-! ### by data -/
/-- w stands for the plain data d -/
inductive Pk (ka : Cells) : W → D → Prop where
  | v {d} : Pk ka (.val d) d
  | w {d} : Pk ka (.vw d) d
  | c {a ds} (j : Nat) (h : ka[j]? = some (a, .lst ds)) : Pk ka (.val (.adr a)) (.lst ds)
section
variable {K : PySem.W.Frag} {B F F0 : Hp} {ro : Ro} {ka : Cells} {ta : List (V × W)} {sg : L2.St} {H : Hp} {x y : W}
/-- what may be read with the cells' lists beside -/
def gH (H : Hp) : Hp := fun a => match H a with
  | some (.frz _ u) => if lk u then some u else none
  | z => z
theorem gH_nz : Nz (gH H) := fun a u h => by
  unfold gH at h
  split at h
  · split at h
    · rename_i hx
      cases h
      cases u <;> first | rfl | cases hx
    · cases h
  · rename_i z q
    cases u with
    | frz ob z => exact absurd h (q ob z)
    | _ => rfl
theorem gH_exz : Exz (gH H) H := fun a u h => by
  unfold gH at h
  split at h
  · rename_i ob x q
    split at h
    · rename_i hx
      cases h
      exact .inr ⟨hx, ob, q⟩
    · cases h
  · exact .inl h
theorem exz_gH {G : Hp} (e : Exz G H) (n : Nz G) : Exz G (gH H) := fun a u h => by
  refine .inl ?_
  have hu := n a u h
  unfold gH
  rcases e a u h with q | ⟨k, o, q⟩
  · rw [q]
    cases u with
    | frz o z => cases hu
    | _ => rfl
  · rw [q]
    show (if lk u then some u else none) = some u
    rw [k]
    rfl
theorem Pk.get {d : D} {v : V} (l : Pk ka x d) (e : EnF K B F ro ka ta sg H) (h : WOk K B F v x) : Rp K (gH H) d v := by
  cases l with
  | v => exact Rp.mono (exz_gH e.fz e.nz) e.nz d v h
  | w => exact Rp.mono (exz_gH (uni_exz e.fz e.fr) (uni_nz e.nz)) (uni_nz e.nz) d v h
  | @c a ds j hj =>
    obtain ⟨_, _, xs, h1, h2⟩ := e.ce _ (List.mem_of_getElem? hj)
    have hv : v = .ref a := h
    refine ⟨a, xs, hv, .inl ?_, RpL.mono (exz_gH e.fz e.nz) e.nz _ _ h2⟩
    unfold gH
    rw [h1]
theorem rv_eqP {d e : D} (l1 : Pk ka x d) (l2 : Pk ka y e) (p1 : pl 61 d = true) (p2 : pl 61 e = true) : RvD K (rEqP K false) ka x y (.val (.bl (eqD d e))) := fun B F0 ro ta sg H u v Q en h1 h2 q => by
  obtain ⟨F, g, ef⟩ := id en
  exact ⟨60, gH H, d, e, gH_exz, gH_nz, Nat.le_refl _, p1, p2, l1.get ef (ef.tm _ h1), l2.get ef (ef.tm _ h2), q _ _ (en.push_imm fun _ => rfl)⟩
theorem rv_neP {d e : D} (l1 : Pk ka x d) (l2 : Pk ka y e) (p1 : pl 61 d = true) (p2 : pl 61 e = true) : RvD K (rEqP K true) ka x y (.val (.bl (!eqD d e))) := fun B F0 ro ta sg H u v Q en h1 h2 q => by
  obtain ⟨F, g, ef⟩ := id en
  exact ⟨60, gH H, d, e, gH_exz, gH_nz, Nat.le_refl _, p1, p2, l1.get ef (ef.tm _ h1), l2.get ef (ef.tm _ h2), q _ _ (en.push_imm fun _ => rfl)⟩
end
end DL

/-! DO: operators that a class of the text defines (own work). -/
namespace DL
open PySem L2 PySem.W

section
variable {X : Cx} {CX : CXT} {k : Nat} {C f : Addr} {fd : FuncData} {ps : List Str} {sp : Sp} {E : XK}
/-- the same state, seen from other surroundings of the same frames -/
theorem inv_moved {A : Around} {pins : List (Addr × Obj)} {s : Shared} {sg : L2.St} {H : Hp} (I : L2.Inv X pins sg H s) (hd : X.calm = true → A.handled = none) (ha : A.frames = X.A.frames) : L2.Inv { X with A := A } pins sg H s :=
  { I with ok := { I.ok with hd := hd, frames := ha.trans I.ok.frames } }
/-- a def of the text, called within a built-in's work: the library's run_fn in the surroundings moved there -/
theorem run_fn {A : Around} {pins : List (Addr × Obj)} {s : Shared} {sg : L2.St} {H : Hp} {vs : List V} {us : List Value} {Q : VK} (F : FnOk X.prog X.w X.K X.mg X.base CX k f fd ps sp) (hr : Room k A) (ha : A.frames = X.A.frames)
    (hb : Binds X.K fd ps []) (hx : Passes CX X E) (I : L2.Inv X pins sg H s) (rv : Vals vs us) (h : sp vs H Q E) : wpAny (model X.prog X.w) A (call (.ref f) us) (EP X pins sg Q) X.xe s := by
  have home : ∀ {pn : List (Addr × Obj)} {σ : L2.St} {H0 : Hp} {s0 : Shared}, L2.Inv { X with A := A } pn σ H0 s0 → L2.Inv X pn σ H0 s0 := fun J => inv_moved (X := { X with A := A }) (A := X.A) J I.ok.hd ha.symm
  have there := L2.run_fn (X := { X with A := A }) (dvs := []) (ds := []) (vs := vs) (us := us) (Q := Q) (E := E) F hr hb .nil (fun pn σ H0 s0 e s' J c => hx pn σ H0 s0 e s' (home J) c) (inv_moved I (fun _ => hr.hd) ha) rv (by rw [List.append_nil]; exact h)
  exact wpAny_mono there (fun u s2 ⟨v, H', J, r, q⟩ => ⟨v, H', home J, r, q⟩) fun _ _ z => z
/-- where an instance stands, for the library's rules -/
theorem inst_at {pins : List (Addr × Obj)} {s : Shared} {sg : L2.St} {H : Hp} {a dx : Addr} {fs : List (Str × V)} (I : Inv X pins sg H s) (h : H a = some (.ins C dx fs)) : ∃ od, PySem.W.InstAt s.heap a (PySem.W.instObj C dx) C (some od) := by
  obtain ⟨mA, J, _⟩ := ins_get I.hok h
  obtain ⟨od, J2, _⟩ := J.look
  exact ⟨od, J2⟩
/-- the special method m of the class at C is the def at f -/
structure Sm (K : PySem.W.Frag) (C : Addr) (m : Str) (f : Addr) : Prop where
  at_ : findIn K (.ref C) m = some (some (.ref f))
  fn : isFn K (.ref f) = true
theorem looks_ty {M : Model} {s : Shared} {a : Addr} {T : String} (h : s.TypeIs (.ref a) T) : Looks M s.heap (typeOf (.ref a)) (.type T) := by
  obtain ⟨o, ho, hc⟩ := h
  intro A Q E s2 kp q
  exact wpAny_typeOf_ref (kp _ _ ho) (hc ▸ q)
/-- the type of a value, as the library looks for it -/
def TyL (X : Cx) (x : V) (H : Hp) (T : String) : Prop := ∀ pins s sg u, Inv X pins sg H s → RelV x u → Looks (model X.prog X.w) s.heap (typeOf u) (.type T)
theorem tyl_non {H : Hp} : TyL X .non H "NoneType" := fun _ _ _ u _ r => by cases r; exact Looks.of_pure rfl
theorem tyl_bl {H : Hp} {b : Bool} : TyL X (.bl b) H "bool" := fun _ _ _ u _ r => by cases r; exact Looks.of_pure rfl
theorem tyl_int {H : Hp} {b : Int} : TyL X (.int b) H "int" := fun _ _ _ u _ r => by obtain ⟨t, rfl⟩ := r; exact Looks.of_pure rfl
theorem tyl_str {H : Hp} {b : Str} : TyL X (.str b) H "str" := fun _ _ _ u _ r => by obtain ⟨t, rfl⟩ := r; exact Looks.of_pure rfl
theorem tyl_tup {H : Hp} {a : Addr} {xs : List V} (h : SqT X.K H a xs) : TyL X (.ref a) H "tuple" := fun _ _ _ u I r => by
  cases r
  obtain ⟨its, _, t1, _⟩ := I.tuple h
  exact looks_ty t1.typeIs
theorem tyl_lst {H : Hp} {a : Addr} {xs : List V} (h : SqL X.K H a xs) : TyL X (.ref a) H "list" := fun _ _ _ u I r => by
  cases r
  obtain ⟨its, _, t1, _⟩ := I.list h
  exact looks_ty t1.isList.typeIs
/-- what the text says of a class's own operator, against a value of the built-in type T -/
structure Bo (K : PySem.W.Frag) (C : Addr) (op : Operator) (f : Addr) : Prop where
  first : selfFirst K C = true
  sm : Sm K C (PySem.dunder op.info.2) f
  refl : findIn K (.ref C) (dunderR op.info.2) = some none
structure BoT (K : PySem.W.Frag) (C : Addr) (op : Operator) (T : String) : Prop where
  l : ∃ fo, findIn K (.type T) (PySem.dunder op.info.2) = some fo
  r : ∃ ro, findIn K (.type T) (dunderR op.info.2) = some ro
  sub : subIn K (.type T) (.ref C) = some false
/-- the left operand's method is asked first, and answers: whatever the two operands are -/
theorem left_asked {prog : Program} {w : World} {A : Around} {E : Value → Shared → Prop} {s : Shared} {a b ta tb : Value} {nm : String} {r p : Bool} {ro : Option Value} {R : Option Value → Shared → Prop}
    (la : Looks (model prog w) s.heap (typeOf a) ta) (lb : Looks (model prog w) s.heap (typeOf b) tb) (ne : (ta == tb) = false) (fa : Looks (model prog w) s.heap (fillsNumberSlot ta nm) true)
    (fb : Looks (model prog w) s.heap (fillsNumberSlot tb nm) r) (sb : Looks (model prog w) s.heap (isSubtype tb ta) false) (pa : Looks (model prog w) s.heap (numberSlotInPython ta nm) true)
    (pb : Looks (model prog w) s.heap (numberSlotInPython tb nm) p) (lr : Looks (model prog w) s.heap (typeLookup tb (dunderR nm)) ro)
    (ask : wpAny (model prog w) A (tryMethod a (PySem.dunder nm) b) (fun u s2 => u.isSome = true ∧ R u s2) E s) : wpAny (model prog w) A (binaryOp1 nm a b) R E s := by
  obtain ⟨hh, ge, dr, tk, os⟩ := s
  unfold binaryOp1
  refine wpAny_bind (la.at (wpAny_bind (lb.at (wpAny_bind (fa.at ?_)))))
  rw [ne]
  cases r <;> cases p <;>
  · simp only [Bool.false_eq_true, if_false]
    ksp_lk
    refine wpAny_mono ask (fun u s2 z => ?_) fun _ _ e => e
    cases u with
    | none => exact absurd z.1 (by decide)
    | some v => exact wpAny_pure z.2
theorem op_answered {M : Model} {A : Around} {E : Value → Shared → Prop} {s : Shared} {a b : Value} {op : Operator} {Q : Value → Shared → Prop} (h : wpAny M A (binaryOp1 op.info.2 a b) (fun u s2 => ∃ v, u = some v ∧ Q v s2) E s) : wpAny M A (binaryOp op a b) Q E s := by
  unfold binaryOp
  revert h
  rcases op.info with ⟨sy, nm⟩
  intro h
  refine wpAny_holding (wpAny_bind (wpAny_mono h (fun u s2 z => ?_) fun _ _ e => e))
  rcases z with ⟨v, rfl, z⟩
  exact wpAny_pure z
/-- x op b by the class of x, whatever b's built-in type does -/
theorem bin_look {prog : Program} {w : World} {A : Around} {E : Value → Shared → Prop} {s : Shared} {K : PySem.W.Frag} {x C f L : Addr} {h0 : Heap} {m : Str → Option Value} {ox : Obj} {od : Option Obj} {op : Operator} {b : Value} {T : String} {Q : Value → Shared → Prop}
    (F : PyProof.Rows.Fr h0 L s.heap m) (X0 : K.In h0) (I : InstAt s.heap x ox C od) (hb : Looks (model prog w) s.heap (typeOf b) (.type T)) (o : Bo K C op f) (t : BoT K C op T)
    (h : wpAny (model prog w) A (call (.ref f) [.ref x, b]) (CmpBack Q) E s) : wpAny (model prog w) A (binaryOp op (.ref x) b) Q E s :=
  let XK := X0.keeps F.keep
  let ⟨_, _, hcd, hmro⟩ := ksp_first o.first
  let ⟨_, t1⟩ := t.l
  let ⟨_, t2⟩ := t.r
  op_answered (left_asked I.type hb (beq_eq_false_iff_ne.mpr fun z => nomatch z) (fills_K XK hcd hmro o.sm.at_) (ksp_fillsT XK t1 t2) (looks_subIn XK t.sub) (ksp_inPy XK o.sm.at_ o.refl (.inl rfl)) (Looks.of_pure rfl) (looks_findIn XK t2)
    (wpAny_mono (ksp_try XK I o.sm.at_ o.sm.fn h) (fun _ _ ⟨v, e, q⟩ => ⟨e ▸ rfl, v, e, q⟩) fun _ _ z => z))
theorem cmpBack_of {X : Cx} {pins : List (Addr × Obj)} {sg : L2.St} {Q : VK} {u : Value} {s : Shared} (h : EP X pins sg Q u s) : CmpBack (EP X pins sg Q) u s := by
  obtain ⟨v, H, I, r, q⟩ := h
  cases v with
  | non => cases r; exact ⟨.non, H, I, rfl, q⟩
  | bl b => cases r; exact ⟨.bl b, H, I, rfl, q⟩
  | int i => obtain ⟨t, rfl⟩ := r; exact ⟨.int i, H, I, ⟨t, rfl⟩, q⟩
  | str i => obtain ⟨t, rfl⟩ := r; exact ⟨.str i, H, I, ⟨t, rfl⟩, q⟩
  | byt i => obtain ⟨t, rfl⟩ := r; exact ⟨.byt i, H, I, ⟨t, rfl⟩, q⟩
  | flt i => obtain ⟨t, rfl⟩ := r; exact ⟨.flt i, H, I, ⟨t, rfl⟩, q⟩
  | ref a => cases r; exact ⟨.ref a, H, I, rfl, q⟩
  | ty n => cases r; exact ⟨.ty n, H, I, rfl, q⟩
/-- x op y, y of a built-in type for which the text's facts stand -/
abbrev rOwnT (X : Cx) (C : Addr) (op : Operator) (sp : Sp) (E : XK) : R2 := fun x y H Q => ∃ a dx fs T, x = .ref a ∧ H a = some (.ins C dx fs) ∧ TyL X y H T ∧ BoT X.K C op T ∧ sp [x, y] H Q E
theorem op_own {op : Operator} (o : Bo X.K C op f) (F : FnOk X.prog X.w X.K X.mg X.base CX k f fd ps sp) (hr : Room k X.A) (hb : Binds X.K fd ps []) (hx : Passes CX X E) : OpR X (binaryOp op) (rOwnT X C op sp E) := by
  intro pins s sg H x y v u Q I rx ry h
  obtain ⟨a, dx, fs, T, rfl, ha, ty, bt, h⟩ := h
  cases rx
  obtain ⟨od, J⟩ := inst_at I ha
  obtain ⟨m1, hF⟩ := I.fr
  exact bin_look hF I.ok.mod.kin J (ty pins s sg u I ry) o bt (wpAny_mono (run_fn F hr rfl hb hx I (.cons (show RelV (.ref a) (.ref a) from rfl) (.cons ry .nil)) h) (fun u2 s2 z => cmpBack_of z) fun _ _ z => z)
/-! ### == and != by the class's own __eq__ -/
/-- a type against which x's class goes first: a built-in one, or the class itself -/
inductive TyE (X : Cx) (C : Addr) (H : Hp) : V → Prop where
  | ty {y : V} {T : String} (h : TyL X y H T) (s : subIn X.K (.type T) (.ref C) = some false) : TyE X C H y
  | own {a dx : Addr} {fs : List (Str × V)} (h : H a = some (.ins C dx fs)) : TyE X C H (.ref a)
end
end DL

/-! DF: defs by contract, instances, exceptions by data (own work). -/
namespace DL
open PySem L2 PySem.W

/-! ### defs -/
/-- the def at f keeps the contract C -/
def Fn (P : Program) (w : World) (K : PySem.W.Frag) (mg : Str → Option Value) (base : Heap) (k : Nat) (f : Addr) (ps : List Str) (C : Ct) : Prop := ∃ fd, FnOk P w K mg base (L2.CX P w) k f fd ps (spC K C) ∧ Binds K fd ps []
section
variable {P : Program} {w : World} {K : PySem.W.Frag} {mg : Str → Option Value} {base : Heap} {f : Addr} {fd : FuncData} {x qual : Str} {params : Arguments} {body : List Stmt} {scope : Scope} {ps N : List Str} {k j : Nat} {C : Ct}
theorem Fn.up (F : Fn P w K mg base j f ps C) (h : j ≤ k) : Fn P w K mg base k f ps C := let ⟨fd, a, b⟩ := F; ⟨fd, a.mono h, b⟩
theorem fn_okG {dvs : List V} (F : FunD K x qual params body scope dvs [] f fd) (S : FnScope N ps scope)
    (hl : ∀ ws ka out, C ws ka out → ws.length = ps.length)
    (h : ∀ (cdv : Value) (A : Around) (outer : List Env) (s : Shared) (H : Hp) (E : XK), Room k (A.deeper (PyProof.Rows.envOfC qual scope s.heap.objs.size f cdv)) →
      ∃ t, PSs (cxOf (L2.CX P w) P w K mg base N qual scope f cdv A outer s H E) body t ∧
        ∀ ws ka out B F0 Q, C ws ka out → RtOk K B F0 out Q → RxOk K B F0 out E → Gp K B F0 [] (t { nx := fun _ H' => Q .non H', rt := Q }) (ws.map some ++ List.replicate (N.length - ps.length) none) ka) : FnOk P w K mg base (L2.CX P w) (k + 1) f fd ps (spC K C) := by
  refine (F.ok S (fun vs H Q E h => ?_) (fun cdv A outer s H vs Q E hr hs => ?_))
  · obtain ⟨B, F', ws, ka, out, hC, l, _⟩ := h
    rw [l]
    exact hl _ _ _ hC
  · obtain ⟨t, d, p⟩ := h cdv A outer s H E hr
    obtain ⟨B, F0, ws, ka, out, hC, l, ⟨F1, g1, en⟩, hR, hX⟩ := hs
    refine ⟨t, d, p ws ka out B F0 Q hC hR hX _ H ⟨F1, g1, ?_⟩⟩
    have hw := hl _ _ _ hC
    refine (en.frame (ro' := ws.map some ++ List.replicate (N.length - ps.length) none) (sg' := L2.start N vs) ?_ fun i w2 e => ?_).held fun p hp => by cases hp
    · unfold L2.start
      rw [List.length_append, List.length_append, List.length_map, List.length_map, List.length_replicate, List.length_replicate, l, hw]
    · unfold L2.start
      by_cases hi : i < ws.length
      · rw [List.getElem?_append_left (by rw [List.length_map]; exact hi), List.getElem?_map, List.getElem?_eq_getElem hi] at e
        have e' : ws[i] = w2 := by simpa using e
        rw [List.getElem?_append_left (by rw [List.length_map, l]; exact hi), List.getElem?_map, List.getElem?_eq_getElem (by rw [l]; exact hi)]
        refine ⟨vs[i], rfl, ?_⟩
        have := en.tm (vs[i]'(by rw [l]; exact hi), ws[i]) (by
          have hz : (vs.zip ws)[i]? = some (vs[i]'(by rw [l]; exact hi), ws[i]) := by
            rw [List.getElem?_zip_eq_some]
            exact ⟨List.getElem?_eq_getElem _, List.getElem?_eq_getElem _⟩
          exact List.mem_of_getElem? hz)
        rw [e'] at this
        exact this
      · rw [List.getElem?_append_right (by rw [List.length_map]; omega), List.getElem?_replicate] at e
        split at e <;> cases e
theorem fn_okF (F : FunD K x qual params body scope [] [] f fd) (S : FnScope N ps scope)
    (hb : ∀ (kV doc pm : Value) (an : Option Addr) (cdv ct : Value) (us : List Value), us.length = ps.length → bindArgs (PySem.W.fnOf x qual params body scope .none kV doc pm an cdv ct) ⟨us, []⟩ = pure (ps.zip us))
    (hl : ∀ ws ka out, C ws ka out → ws.length = ps.length)
    (h : ∀ (cdv : Value) (A : Around) (outer : List Env) (s : Shared) (H : Hp) (E : XK), Room k (A.deeper (PyProof.Rows.envOfC qual scope s.heap.objs.size f cdv)) →
      ∃ t, PSs (cxOf (L2.CX P w) P w K mg base N qual scope f cdv A outer s H E) body t ∧
        ∀ ws ka out B F0 Q, C ws ka out → RtOk K B F0 out Q → RxOk K B F0 out E → Gp K B F0 [] (t { nx := fun _ H' => Q .non H', rt := Q }) (ws.map some ++ List.replicate (N.length - ps.length) none) ka) : FnOk P w K mg base (L2.CX P w) (k + 1) f fd ps (spC K C) := fn_okG F S hl h
theorem fn_ok (F : FunD K x qual params body scope [] [] f fd) (S : FnScope N ps scope)
    (hb : ∀ (kV doc pm : Value) (an : Option Addr) (cdv ct : Value) (us : List Value), us.length = ps.length → bindArgs (PySem.W.fnOf x qual params body scope .none kV doc pm an cdv ct) ⟨us, []⟩ = pure (ps.zip us))
    (hl : ∀ ws ka out, C ws ka out → ws.length = ps.length)
    (h : ∀ (cdv : Value) (A : Around) (outer : List Env) (s : Shared) (H : Hp) (E : XK), Room k (A.deeper (PyProof.Rows.envOfC qual scope s.heap.objs.size f cdv)) →
      ∃ t, PSs (cxOf (L2.CX P w) P w K mg base N qual scope f cdv A outer s H E) body t ∧
        ∀ ws ka out B F0 Q, C ws ka out → RtOk K B F0 out Q → RxOk K B F0 out E → Gp K B F0 [] (t { nx := fun _ H' => Q .non H', rt := Q }) (ws.map some ++ List.replicate (N.length - ps.length) none) ka) : Fn P w K mg base (k + 1) f ps C := ⟨fd, fn_okF F S hb hl h, F.bindsN hb⟩
end
/-- the def behind a contract, and what is known of it -/
noncomputable def Fn.fd {P : Program} {w : World} {K : PySem.W.Frag} {mg : Str → Option Value} {base : Heap} {k : Nat} {f : Addr} {ps : List Str} {C : Ct} (F : Fn P w K mg base k f ps C) : FuncData := Classical.choose F
theorem Fn.ok {P : Program} {w : World} {K : PySem.W.Frag} {mg : Str → Option Value} {base : Heap} {k : Nat} {f : Addr} {ps : List Str} {C : Ct} (F : Fn P w K mg base k f ps C) : FnOk P w K mg base (L2.CX P w) k f F.fd ps (spC K C) := (Classical.choose_spec F).1
theorem Fn.bn {P : Program} {w : World} {K : PySem.W.Frag} {mg : Str → Option Value} {base : Heap} {k : Nat} {f : Addr} {ps : List Str} {C : Ct} (F : Fn P w K mg base k f ps C) : Binds K F.fd ps [] := (Classical.choose_spec F).2
section
variable {X : Cx}
theorem passes_no : Passes (L2.CX X.prog X.w) X (fun _ _ _ => False) := fun _ _ _ _ _ _ _ ⟨_, _, _, _, _, _, _, _, _, _, _, _, z⟩ => z.elim
end
end DL

/-! DG: instances by data (own work). -/
namespace DL
open PySem L2 PySem.W

section
variable {K : PySem.W.Frag} {B F F0 : Hp} {ro : Ro} {ka k1 k2 k3 kr : Cells} {ta : List (V × W)} {sg : L2.St} {H H' : Hp} {te tf tg : TE} {tr : TA} {tt : TT} {w x y z : W} {n : Nd} {C dx a : Addr} {fs : List (Str × D)} {b : Bool}

theorem rpf_lookup {F : Hp} : ∀ {fs : List (Str × D)} {xs : List (Str × V)} {f : Str} {d : D}, RpF K F fs xs → fs.lookup f = some d → ∃ v, xs.lookup f = some v ∧ Rp K F d v
  | [], _, _, _, _, e => by cases e
  | (g, d0) :: fs, xs, f, d, h, e => by
    obtain ⟨x, ys, rfl, h1, h2⟩ := h
    unfold List.lookup at e ⊢
    cases q : (f == g) with
    | true =>
      rw [q] at e
      cases e
      exact ⟨x, rfl, h1⟩
    | false =>
      rw [q] at e
      exact rpf_lookup h2 e
theorem rpf_none {F : Hp} : ∀ {fs : List (Str × D)} {xs : List (Str × V)} {f : Str}, RpF K F fs xs → fs.lookup f = none → xs.lookup f = none
  | [], xs, f, h, _ => by rw [show xs = [] from h]; rfl
  | (g, d0) :: fs, xs, f, h, e => by
    obtain ⟨x, ys, rfl, h1, h2⟩ := h
    unfold List.lookup at e ⊢
    cases q : (f == g) with
    | true => rw [q] at e; cases e
    | false => rw [q] at e; exact rpf_none h2 e
/-- w is an instance of the class at C with the fields fs; b: viewed -/
inductive Io (ka : Cells) : W → Addr → List (Str × D) → Bool → Prop where
  | v {D1 : Addr} {gs : List (Str × D)} : Io ka (.val (.ins D1 gs)) D1 gs false
  | w {D1 : Addr} {gs : List (Str × D)} : Io ka (.vw (.ins D1 gs)) D1 gs true
  | c {p D1 : Addr} {gs : List (Str × D)} (j : Nat) (h : ka[j]? = some (p, .ins D1 gs)) : Io ka (.val (.adr p)) D1 gs false
theorem rd_ins {H : Hp} {dx : Addr} {xs : List (Str × V)} (n : Nz F) (e : Exz F H) (h : Rd F a (.ins C dx xs)) : H a = some (.ins C dx xs) := by
  rcases h with h | ⟨o, h⟩
  · exact e.at h rfl
  · have := n a _ h
    cases this
/-- the built-in type of a value, by the abstract heap -/
inductive TyV (K : PySem.W.Frag) (H : Hp) : V → String → Prop where
  | non : TyV K H .non "NoneType"
  | bl {b : Bool} : TyV K H (.bl b) "bool"
  | int {b : Int} : TyV K H (.int b) "int"
  | str {b : Str} : TyV K H (.str b) "str"
  | lst {a : Addr} {xs : List V} (h : SqL K H a xs) : TyV K H (.ref a) "list"
  | tup {a : Addr} {xs : List V} (h : SqT K H a xs) : TyV K H (.ref a) "tuple"
theorem TyV.tyl {X : Cx} {y : V} {T : String} (h : TyV X.K H y T) : TyL X y H T := by
  cases h with
  | non => exact tyl_non
  | bl => exact tyl_bl
  | int => exact tyl_int
  | str => exact tyl_str
  | lst h => exact tyl_lst h
  | tup h => exact tyl_tup h
inductive TyE2 (K : PySem.W.Frag) (C : Addr) (H : Hp) : V → Prop where
  | ty {y : V} {T : String} (h : TyV K H y T) (s : subIn K (.type T) (.ref C) = some false) : TyE2 K C H y
  | own {a dx : Addr} {gs : List (Str × V)} (h : H a = some (.ins C dx gs)) : TyE2 K C H (.ref a)
abbrev rOwnT2 (K : PySem.W.Frag) (C : Addr) (op : Operator) (sp : Sp) (E : XK) : R2 := fun x y H Q => ∃ a dx fs T, x = .ref a ∧ H a = some (.ins C dx fs) ∧ TyV K H y T ∧ BoT K C op T ∧ sp [x, y] H Q E
theorem opr_imp {X : Cx} {f : Value → Value → Sem Value} {r r' : R2} (h : OpR X f r) (i : ∀ x y H Q, r' x y H Q → r x y H Q) : OpR X f r' := fun pins s sg H x y v u Q I rx ry q => h pins s sg H x y v u Q I rx ry (i _ _ _ _ q)
theorem opr_T {X : Cx} {op : Operator} {sp : Sp} {E : XK} (h : OpR X (binaryOp op) (rOwnT X C op sp E)) : OpR X (binaryOp op) (rOwnT2 X.K C op sp E) := opr_imp h fun x y H Q ⟨a, dx, fs, T, h1, h2, h3, h4, h5⟩ => ⟨a, dx, fs, T, h1, h2, h3.tyl, h4, h5⟩
theorem Io.get {v : V} (l : Io ka w C fs b) (e : EnF K B F ro ka ta sg H) (h : WOk K B F v w) : ∃ a dx xs, v = .ref a ∧ H a = some (.ins C dx xs) ∧ RpF K (if b then uni B F else F) fs xs := by
  cases l with
  | v =>
    obtain ⟨a, dx, xs, rfl, h1, h2⟩ := h
    exact ⟨a, dx, xs, rfl, rd_ins e.nz e.fz h1, h2⟩
  | w =>
    obtain ⟨a, dx, xs, rfl, h1, h2⟩ := h
    exact ⟨a, dx, xs, rfl, rd_ins (uni_nz e.nz) (uni_exz e.fz e.fr) h1, h2⟩
  | @c a C fs j hj =>
    obtain ⟨_, _, dx, xs, h1, h2⟩ := e.ce _ (List.mem_of_getElem? hj)
    exact ⟨a, dx, xs, h, h1, h2⟩
theorem Io.en {v : V} (l : Io ka w C fs b) (e : En K B F0 ro ka ta sg H) (h : (v, w) ∈ ta) : ∃ a dx xs, v = .ref a ∧ H a = some (.ins C dx xs) := by
  obtain ⟨F, g, e⟩ := e
  obtain ⟨a, dx, xs, h1, h2, _⟩ := l.get e (e.tm _ h)
  exact ⟨a, dx, xs, h1, h2⟩
/-- o.f, a field -/
theorem ev_fld {f : Str} {d : D} (h : EvD K te ro ka w k1) (l : Io k1 w C fs b) (c : Cls K C) (nf : NoAttr K C f) (hd : fs.lookup f = some d) : EvD K (tFld K te f) ro ka (part b d) k1 := fun B F0 ta sg H Q e q => h B F0 ta sg H _ e fun v H1 e1 => by
  obtain ⟨F, g, e1⟩ := e1
  obtain ⟨a, dx, xs, rfl, h1, h2⟩ := l.get e1 (e1.tm _ List.mem_cons_self)
  obtain ⟨v, h3, h4⟩ := rpf_lookup h2 hd
  refine ⟨a, C, dx, xs, v, rfl, h1, c, nf, h3, q v H1 ⟨F, g, ?_⟩⟩
  exact (e1.held (ta' := ta) fun p hp => List.mem_cons_of_mem _ hp).push (wok_part b h4)

/-! ### calls by contract: how they end -/
/-- the call ends with an exception of the class C1 -/
theorem sp_exc {Cc : Ct} {ws : List W} {out : Out → Cells → Prop} {vs : List V} {E : XK} {Q : VK} {C1 : Addr} {fs : List (Str × D)} (e : En K B F0 ro (ka ++ kr) (vs.zip ws ++ ta) sg H) (hl : vs.length = ws.length) (hC : Cc ws ka out) (ho : ∀ o k, out o k → o = .exc C1 fs ∧ k = k2)
    (q : ∀ dx H', En K B F0 ro (k2 ++ [(dx, .xd fs)] ++ kr) ta sg H' → E (.ref C1) (some dx) H') : spC K Cc vs H Q E := by
  obtain ⟨F, g, e⟩ := e
  refine ⟨off H ka, F, ws, ka, out, hC, hl, ⟨F, Gr.refl _ _, e.into (ro' := []) (sg' := []) (ta' := vs.zip ws) rfl (fun i w h => by simp at h) fun p hp => List.mem_append_left _ hp⟩, fun d' k v H' o _ => ?_, fun C fs k dx H' o ⟨F', g', e'⟩ => ?_, fun C k H' o _ => ?_⟩
  · have := (ho _ _ o).1
    cases this
  · obtain ⟨hd, rfl⟩ := ho _ _ o
    cases hd
    obtain ⟨g2, e2⟩ := e.back g' e' (tb := ta) fun p hp => .inl (List.mem_append_right _ hp)
    exact q dx H' ⟨F', g.trans g2, e2⟩
  · have := (ho _ _ o).1
    cases this
theorem sp_exc0 {Cc : Ct} {ws : List W} {out : Out → Cells → Prop} {vs : List V} {E : XK} {Q : VK} {C1 : Addr} (e : En K B F0 ro (ka ++ kr) (vs.zip ws ++ ta) sg H) (hl : vs.length = ws.length) (hC : Cc ws ka out) (ho : ∀ o k, out o k → o = .exc0 C1 ∧ k = k2)
    (q : ∀ H', En K B F0 ro (k2 ++ kr) ta sg H' → E (.ref C1) none H') : spC K Cc vs H Q E := by
  obtain ⟨F, g, e⟩ := e
  refine ⟨off H ka, F, ws, ka, out, hC, hl, ⟨F, Gr.refl _ _, e.into (ro' := []) (sg' := []) (ta' := vs.zip ws) rfl (fun i w h => by simp at h) fun p hp => List.mem_append_left _ hp⟩, fun d' k v H' o _ => ?_, fun C fs k dx H' o _ => ?_, fun C k H' o ⟨F', g', e'⟩ => ?_⟩
  · have := (ho _ _ o).1
    cases this
  · have := (ho _ _ o).1
    cases this
  · obtain ⟨hd, rfl⟩ := ho _ _ o
    cases hd
    obtain ⟨g2, e2⟩ := e.back g' e' (tb := ta) fun p hp => .inl (List.mem_append_right _ hp)
    exact q H' ⟨F', g.trans g2, e2⟩
/-- the call comes back with a new cell -/
theorem sp_new {Cc : Ct} {ws : List W} {out : Out → Cells → Prop} {vs : List V} {E : XK} {Q : VK} {m : Nd} (e : En K B F0 ro (ka ++ kr) (vs.zip ws ++ ta) sg H) (hl : vs.length = ws.length) (hC : Cc ws ka out) (ho : ∀ o k, out o k → ∃ a, o = .ret (.adr a) ∧ k = k2 ++ [(a, m)])
    (q : ∀ a H', En K B F0 ro (k2 ++ kr ++ [(a, m)]) ta sg H' → Q (.ref a) H') : spC K Cc vs H Q E := by
  obtain ⟨F, g, e⟩ := e
  refine ⟨off H ka, F, ws, ka, out, hC, hl, ⟨F, Gr.refl _ _, e.into (ro' := []) (sg' := []) (ta' := vs.zip ws) rfl (fun i w h => by simp at h) fun p hp => List.mem_append_left _ hp⟩, fun d' k v H' o ⟨F', g', e'⟩ => ?_, fun C fs k dx H' o _ => ?_, fun C k H' o _ => ?_⟩
  · obtain ⟨a, hd, rfl⟩ := ho _ _ o
    cases hd
    have hv : v = .ref a := e'.tm (v, .val (.adr a)) List.mem_cons_self
    subst hv
    obtain ⟨g2, e2⟩ := e.back g' e' (tb := ta) fun p hp => .inl (List.mem_append_right _ hp)
    refine q a H' ⟨F', g.trans g2, e2.perm ?_⟩
    rw [List.append_assoc, List.append_assoc]
    exact List.Perm.append_left _ List.perm_append_comm
  · obtain ⟨a, z, _⟩ := ho _ _ o
    cases z
  · obtain ⟨a, z, _⟩ := ho _ _ o
    cases z
theorem evn_call {Cc : Ct} {ws : List W} {out : Out → Cells → Prop} {E : XK} {m : Nd} (kr : Cells) (ha : EvA K tr ro ka ws (k1 ++ kr)) (hC : Cc ws k1 out) (ho : ∀ o k, out o k → ∃ a, o = .ret (.adr a) ∧ k = k2 ++ [(a, m)]) : EvN K (tCall (spC K Cc) [] E tr) ro ka m (k2 ++ kr) := fun B F0 ta sg H Q e q =>
  ha B F0 ta sg H _ e fun vs H1 hl e1 => by
    rw [List.append_nil]
    exact sp_new e1 hl hC ho q
/-- own == own, own != own, or a built-in's value -/
inductive Eo (ka : Cells) : W → Addr → Prop where
  | io {u : W} {D1 : Addr} {gs : List (Str × D)} {b1 : Bool} (l : Io ka u D1 gs b1) : Eo ka u D1
  | non {D1 : Addr} : Eo ka (.val .non) D1
  | bl {b1 : Bool} {D1 : Addr} : Eo ka (.val (.bl b1)) D1
  | int {b1 : Int} {D1 : Addr} : Eo ka (.val (.int b1)) D1
  | str {b1 : Str} {D1 : Addr} : Eo ka (.val (.str b1)) D1
  | sq {u : W} {t b1 : Bool} {ds : List D} {D1 : Addr} (l : Lk ka u t ds b1) : Eo ka u D1
/-- the built-in types, that the class goes ahead of -/
def EqT (K : PySem.W.Frag) (C : Addr) : Prop := ∀ T ∈ ["NoneType", "bool", "int", "str", "list", "tuple"], subIn K (.type T) (.ref C) = some false
theorem Eo.at {u : V} (hT : EqT K C) (l : Eo ka y C) (e : En K B F0 ro ka ta sg H) (h : (u, y) ∈ ta) : TyE2 K C H u := by
  cases l with
  | io l =>
    obtain ⟨a, dx, xs, rfl, ha⟩ := l.en e h
    exact .own ha
  | non =>
    obtain rfl := e.tm_non h
    exact .ty .non (hT _ (by simp))
  | bl =>
    obtain rfl := e.tm_bl h
    exact .ty .bl (hT _ (by simp))
  | int =>
    obtain rfl := e.tm_int h
    exact .ty .int (hT _ (by simp))
  | str =>
    obtain rfl := e.tm_str h
    exact .ty .str (hT _ (by simp))
  | @sq x t ds b C l =>
    obtain ⟨F, g, e⟩ := e
    obtain ⟨a, xs, rfl, h1, _⟩ := l.get e (e.tm _ h)
    cases t with
    | false => exact .ty (.lst (.inl h1)) (hT _ (by simp))
    | true => exact .ty (.tup h1) (hT _ (by simp))
/-- own << other and the like: the other of a built-in type -/
structure TyWf (K : PySem.W.Frag) (C : Addr) (op : Operator) (ka : Cells) (y : W) : Prop where
  at_ : ∀ B F0 ro ta sg H u, En K B F0 ro ka ta sg H → (u, y) ∈ ta → ∃ T, TyV K H u T ∧ BoT K C op T
theorem tyw_int {op : Operator} {i : Int} (t : BoT K C op "int") : TyWf K C op ka (.val (.int i)) := ⟨fun B F0 ro ta sg H u e h => by obtain rfl := e.tm_int h; exact ⟨_, .int, t⟩⟩
theorem rv_ownT {Cc : Ct} {op : Operator} {out : Out → Cells → Prop} {E : XK} {d : D} {b : Bool} (kr : Cells) (l : Io (k1 ++ kr) x C fs b) (t : TyWf K C op (k1 ++ kr) y) (hC : Cc [x, y] k1 out) (ho : ∀ o k, out o k → o = .ret d ∧ k = k1) : RvD K (rOwnT2 K C op (spC K Cc) E) (k1 ++ kr) x y (.val d) := fun B F0 ro ta sg H u v Q e h1 h2 q => by
  obtain ⟨a, dx, xs, rfl, ha⟩ := l.en e h1
  obtain ⟨T, ty, bt⟩ := t.at_ _ _ _ _ _ _ _ e h2
  refine ⟨a, dx, xs, T, rfl, ha, ty, bt, sp_ret (ws := [x, y]) (ta := ta) (e.held fun p hp => ?_) rfl hC ho q⟩
  rcases List.mem_append.mp hp with hp | hp
  · simp at hp
    rcases hp with rfl | rfl
    · exact h1
    · exact h2
  · exact hp
end
end DL

/-! DH: making objects, isinstance, conversions, exceptions by data (own work). -/
namespace DL
open PySem L2 PySem.W

section
variable {K : PySem.W.Frag} {B F F0 : Hp} {ro : Ro} {ka k1 k2 k3 kr : Cells} {ta : List (V × W)} {sg : L2.St} {H H' : Hp} {te tf tg : TE} {tr : TA} {tt : TT} {w x y z : W} {n : Nd} {C dx a : Addr} {fs : List (Str × D)} {b : Bool} {P : L2.St → Hp → Prop}

/-! ### an instance cell, frozen -/
theorem En.freeze_i (e : En K B F0 ro (ka ++ [(a, .ins C fs)]) ta sg H) : En K B F0 ro ka ((.ref a, .val (.ins C fs)) :: ta) sg H := by
  obtain ⟨F, g, e⟩ := e
  obtain ⟨fa, ba, dx, xs, ha, rl⟩ := e.ce (a, .ins C fs) (by simp)
  have gg : Gr B F (upd F a (.ins C dx xs)) := ⟨Sub.new fa, fun b h1 h2 => by
    have ne : b ≠ a := fun q => h2 (q ▸ ba)
    rw [upd_ne ne]
    exact h1⟩
  have nd2 := e.nd
  rw [List.map_append, List.nodup_append] at nd2
  refine ⟨upd F a (.ins C dx xs), g.trans gg, ⟨fun b u h => ?_, fun b u h => ?_, e.fr, nd2.1, fun q hq => ?_, e.ln, fun i w h => ?_, fun q hq => ?_⟩⟩
  · by_cases hb : b = a
    · subst hb; rw [upd_same] at h; cases h; rfl
    · rw [upd_ne hb] at h; exact e.nz b u h
  · by_cases hb : b = a
    · subst hb; rw [upd_same] at h; cases h; exact .inl ha
    · rw [upd_ne hb] at h; exact e.fz b u h
  · obtain ⟨h1, h2, h3⟩ := e.ce q (List.mem_append_left _ hq)
    have nq : q.1 ≠ a := fun z => nd2.2.2 q.1 (List.mem_map.mpr ⟨q, hq, rfl⟩) a (by simp) z
    exact ⟨by rw [upd_ne nq]; exact h1, h2, ndok_gr e.nz gg h3⟩
  · obtain ⟨v, h1, h2⟩ := e.sl i w h
    exact ⟨v, h1, wok_gr e.nz gg h2⟩
  · rcases List.mem_cons.mp hq with rfl | hq
    · exact ⟨a, dx, xs, rfl, .inl upd_same, RpF.mono gg.sub.exz e.nz _ _ rl⟩
    · exact wok_gr e.nz gg (e.tm q hq)
theorem EvN.ins {fs : List (Str × D)} (h : EvN K te ro ka (.ins C fs) k1) : EvD K te ro ka (.val (.ins C fs)) k1 := fun B F0 ta sg H Q e q => h B F0 ta sg H Q e fun a H1 e1 => q _ _ e1.freeze_i
/-- fewer cells -/
theorem En.less (e : En K B F0 ro ka ta sg H) (h : k1.Sublist ka) : En K B F0 ro k1 ta sg H := let ⟨F, g, q⟩ := e; ⟨F, g, q.cells h⟩
theorem EvD.less (h : EvD K te ro ka w k1) (s : k2.Sublist k1) : EvD K te ro ka w k2 := fun B F0 ta sg H Q e q => h B F0 ta sg H Q e fun v H1 e1 => q v H1 (e1.less s)
theorem Gp.less (h : Gp K B F0 ta P ro k1) (s : k1.Sublist ka) : Gp K B F0 ta P ro ka := fun sg H e => h sg H (e.less s)
/-! ### C(e, ..) -/
/-- C(..): __init__ by contract; a new cell -/
theorem evn_make {Cc : Ct} {ws : List W} {E : XK} {m : Nd} (ha : EvA K tr ro ka ws k1)
    (hC : ∀ a, ∃ out, Cc (.val (.adr a) :: ws) (k1 ++ [(a, .ins C [])]) out ∧ ∀ o k, out o k → o = .ret .non ∧ k = k2 ++ [(a, m)]) : EvN K (tMake C (spC K Cc) [] E tr) ro ka m k2 := fun B F0 ta sg H Q e q =>
  ha B F0 ta sg H _ e fun vs H1 hl e1 => by
    intro x dx hx hd hne
    rw [List.append_nil]
    obtain ⟨F, g, e1⟩ := e1
    obtain ⟨e2, g2⟩ := e1.lay (o := .own x) hd rfl
    have hx2 : upd H1 dx (.own x) x = none := by rw [upd_ne (Ne.symm hne)]; exact hx
    have e3 := e2.cell (o := .ins C dx []) hx2 (n := .ins C []) ⟨dx, [], upd_same, rfl⟩
    have e4 := e3.push (v := .ref x) (w := .val (.adr x)) rfl
    obtain ⟨out, hC, ho⟩ := hC x
    have e5 : En K B F0 ro ((k1 ++ [(x, .ins C [])]) ++ []) ((V.ref x :: vs).zip (W.val (.adr x) :: ws) ++ ta) sg (upd (upd H1 dx (.own x)) x (.ins C dx [])) := by
      rw [List.append_nil]
      exact ⟨_, g.trans g2, e4⟩
    refine sp_ret (k2 := k2 ++ [(x, m)]) e5 (by rw [List.length_cons, List.length_cons, hl]) hC ho fun v H' e6 => ?_
    rw [List.append_nil] at e6
    exact ⟨e6.tm_non List.mem_cons_self, q x H' e6.pop⟩
/-- self.f = e, self a cell -/
def putD (f : Str) (v : D) : List (Str × D) → List (Str × D)
  | [] => [(f, v)]
  | (g, x) :: r => if g = f then (g, v) :: r else (g, x) :: putD f v r
theorem rpf_put {F : Hp} {f : Str} {v : V} {d : D} (hv : Rp K F d v) : ∀ {fs : List (Str × D)} {xs : List (Str × V)}, RpF K F fs xs → RpF K F (putD f d fs) (putF f v xs)
  | [], xs, h => by rw [show xs = [] from h]; exact ⟨v, [], rfl, hv, rfl⟩
  | (g, d0) :: fs, xs, h => by
    obtain ⟨x, ys, rfl, h1, h2⟩ := h
    unfold putD putF
    by_cases q : g = f
    · rw [if_pos q, if_pos q]
      exact ⟨v, ys, rfl, hv, h2⟩
    · rw [if_neg q, if_neg q]
      exact ⟨x, _, rfl, h1, rpf_put hv h2⟩
theorem rpf_len {F : Hp} : ∀ {fs : List (Str × D)} {xs : List (Str × V)}, RpF K F fs xs → xs.length = fs.length
  | [], xs, h => by rw [show xs = [] from h]; rfl
  | _ :: fs, xs, h => by
    obtain ⟨x, ys, rfl, _, h2⟩ := h
    rw [List.length_cons, List.length_cons, rpf_len h2]
theorem g_fld {f : Str} {d : D} {j : Nat} {De : Ends} (hv : EvD K tf ro ka (.val d) k1) (ho : EvD K te ro k1 (.val (.adr a)) k2) (hj : k2[j]? = some (a, .ins C fs)) (c : Cls K C) (nf : NoAttr K C f) (hz : fs.length < 900)
    (k : Gp K B F0 ta De.nx ro (k2.set j (a, .ins C (putD f d fs)))) : Gp K B F0 ta (sFld K te tf f De) ro ka := fun sg H e => hv B F0 ta sg H _ e fun v H1 e1 => ho B F0 _ sg H1 _ e1 fun u H2 e2 => by
  have hu := e2.tm_adr List.mem_cons_self
  subst hu
  obtain ⟨F, g, e2⟩ := e2
  obtain ⟨_, _, dx, xs, hx, rx⟩ := e2.ce _ (List.mem_of_getElem? hj)
  have hv := e2.tm (v, .val d) (List.mem_cons_of_mem _ List.mem_cons_self)
  refine ⟨a, C, dx, xs, rfl, hx, c, nf, by rw [rpf_len rx]; omega, k _ _ ⟨F, g, ?_⟩⟩
  exact (e2.write (o := .ins C dx (putF f v xs)) (n' := .ins C (putD f d fs)) hj ⟨dx, _, upd_same, rpf_put hv rx⟩).held fun p hp => List.mem_cons_of_mem _ (List.mem_cons_of_mem _ hp)
theorem q_fld {f : Str} {d : D} {j : Nat} {De : Ends} {u : TS} (hv : EvD K tf ro ka (.val d) k1) (ho : EvD K te ro k1 (.val (.adr a)) k2) (hj : k2[j]? = some (a, .ins C fs)) (c : Cls K C) (nf : NoAttr K C f) (hz : fs.length < 900)
    (k : Gp K B F0 ta (u De) ro (k2.set j (a, .ins C (putD f d fs)))) : Gp K B F0 ta (tSeq (sFld K te tf f) u De) ro ka := g_fld (De := { De with nx := u De }) hv ho hj c nf hz k

/-! ### isinstance -/
/-- the class facts for isinstance -/
structure ClsI (K : PySem.W.Frag) (C : Addr) : Prop where
  cl : Cls K C
  ha : findIn K (.ref C) "__class__" = some (some (.builtin "object.__class__"))
  hn : specialIn K (.builtin "object.__class__") "__get__" = some (some (.builtin "getset_descriptor.__get__"))
  htk : takesIn K (.builtin "object.__class__") = some true
  hm : mroIn K C (.type "object") = some true
/-- the type of what w stands for -/
inductive Tw (K : PySem.W.Frag) (ka : Cells) : W → Value → Prop where
  | non : Tw K ka (.val .non) (.type "NoneType")
  | bl {i : Bool} : Tw K ka (.val (.bl i)) (.type "bool")
  | int {i : Int} : Tw K ka (.val (.int i)) (.type "int")
  | str {i : Str} : Tw K ka (.val (.str i)) (.type "str")
  | lst {u : W} {ds : List D} {b1 : Bool} (l : Lk ka u false ds b1) : Tw K ka u (.type "list")
  | tup {u : W} {ds : List D} {b1 : Bool} (l : Lk ka u true ds b1) : Tw K ka u (.type "tuple")
  | io {u : W} {D1 : Addr} {gs : List (Str × D)} {b1 : Bool} (l : Io ka u D1 gs b1) (c : ClsI K D1) : Tw K ka u (.ref D1)
theorem Tw.at {t : Value} {v : V} (l : Tw K ka w t) (e : En K B F0 ro ka ta sg H) (h : (v, w) ∈ ta) : TyX K H v t := by
  cases l with
  | non => obtain rfl := e.tm_non h; exact .base .non
  | bl => obtain rfl := e.tm_bl h; exact .base (.bl _)
  | int => obtain rfl := e.tm_int h; exact .base (.int _)
  | str => obtain rfl := e.tm_str h; exact .base (.str _)
  | lst l =>
    obtain ⟨F, g, e⟩ := e
    obtain ⟨a, xs, rfl, h1, _⟩ := l.get e (e.tm _ h)
    rcases (show Rd H a (.lst xs) from h1) with h1 | ⟨o, h1⟩
    · exact .base (.lst h1)
    · exact .base (.frz h1)
  | tup l =>
    obtain ⟨F, g, e⟩ := e
    obtain ⟨a, xs, rfl, h1, _⟩ := l.get e (e.tm _ h)
    rcases (show SqT K H a xs from h1) with h1 | h1
    · rcases h1 with h1 | ⟨o, h1⟩
      · exact .base (.tup h1)
      · exact .fTuple h1
    · obtain ⟨o, its, n, q1, q2, _⟩ := h1
      exact .kTuple q1 q2
  | io l c =>
    obtain ⟨a, dx, xs, rfl, ha⟩ := l.en e h
    exact .base (.ins ha c.cl c.ha c.hn c.htk c.hm)
theorem rc_isi {T : String} {t : Value} {b : Bool} (l : Tw K ka w t) (h : kitOne K t (.type T) = some b) : RcD K (rIsi K) ka [w, .val (.ty T)] (.val (.bl b)) := fun B F0 ro ta sg H us Q e hl hm q => by
  obtain ⟨u, v, rfl, h1, h2⟩ := zip_two hl hm
  have hv : v = .ty T := e.tm_ty h2
  subst hv
  exact ⟨u, .ty T, t, .type T, b, rfl, .ty T, l.at e h1, h, q _ _ (e.push_imm fun _ => rfl)⟩
theorem rc_isiC {t : Value} {C1 : Addr} {b : Bool} (l : Tw K ka w t) (h : kitOne K t (.ref C1) = some b) : RcD K (rIsi K) ka [w, .val (.adr C1)] (.val (.bl b)) := fun B F0 ro ta sg H us Q e hl hm q => by
  obtain ⟨u, v, rfl, h1, h2⟩ := zip_two hl hm
  obtain rfl := e.tm_adr h2
  exact ⟨u, .ref C1, t, .ref C1, b, rfl, .own C1, l.at e h1, h, q _ _ (e.push_imm fun _ => rfl)⟩
end
end DL

/-! DJ: raise, try, by data; conversions (own work). -/
namespace DL
open PySem L2 PySem.W

/-! ### own exception classes -/
/-- the class object of an own error: its kind, its line of classes, its slots -/
def lineOk (C : Addr) (cd : ClassData) : Bool := !cd.hasDel && (cd.hasDict && (match cd.mro with
  | x :: r => x == .ref C && PySem.HandSPX.refsVE r
  | [] => false))
def slotsOk (sl : Array (Option Value)) : Bool := sl.size == 6 && sl[4]? == some (some (.builtin "ValueError.__new__"))
def errObj (C : Addr) (o : Obj) : Bool := o.cls == .type "type" && (slotsOk o.slots && (match o.data with
  | .cls cd => lineOk C cd
  | _ => false))
def oexB (K : PySem.W.Frag) (C : Addr) : Bool := (K.lookup C).any (errObj C) && (decide (findIn K (.ref C) "__setattr__" = some (some (.builtin "object.__setattr__"))) && (decide (subIn K (.ref C) (.type "BaseException") = some true) && (decide (typeIn K (.ref C) = some (.type "type")) && keepIn K (.ref C))))
theorem slots_six {sl : Array (Option Value)} (h : slotsOk sl = true) : ∃ a b c d e, sl = #[a, b, c, d, some (.builtin "ValueError.__new__"), e] := by
  obtain ⟨h1, h2⟩ := Bool.and_eq_true_iff.mp h
  have h1 := beq_iff_eq.mp h1
  have h2 := beq_iff_eq.mp h2
  obtain ⟨l⟩ := sl
  match l, h1, h2 with
  | [a, b, c, d, x, e], _, h2 =>
    have : x = some (.builtin "ValueError.__new__") := by simpa using h2
    exact ⟨a, b, c, d, e, by rw [this]⟩
theorem oexB_ok {K : PySem.W.Frag} {C : Addr} (h : oexB K C = true) : OexC K C := by
  have h := Bool.and_eq_true_iff.mp h
  have r1 := Bool.and_eq_true_iff.mp h.2
  have r2 := Bool.and_eq_true_iff.mp r1.2
  have r3 := Bool.and_eq_true_iff.mp r2.2
  refine ⟨?_, of_decide_eq_true r1.1, of_decide_eq_true r2.1, of_decide_eq_true r3.1, r3.2⟩
  obtain ⟨o, ho, h1⟩ : ∃ o, K.lookup C = some o ∧ errObj C o = true := by
    cases q : K.lookup C with
    | none => have := h.1; rw [q] at this; cases this
    | some o => have := h.1; rw [q] at this; exact ⟨o, rfl, this⟩
  have k1 := Bool.and_eq_true_iff.mp h1
  have k2 := Bool.and_eq_true_iff.mp k1.2
  have hc := beq_iff_eq.mp k1.1
  obtain ⟨s0, s1, s2, s3, s5, hs⟩ := slots_six k2.1
  obtain ⟨oc, od, dt, sl⟩ := o
  cases dt with
  | cls cd =>
    have l1 := Bool.and_eq_true_iff.mp (show (!cd.hasDel && (cd.hasDict && _)) = true from k2.2)
    have l2 := Bool.and_eq_true_iff.mp l1.2
    have hdel : cd.hasDel = false := by simpa using l1.1
    have hdict : cd.hasDict = true := l2.1
    cases hm : cd.mro with
    | nil => have := l2.2; rw [hm] at this; cases this
    | cons x r =>
      have l3 : (x == .ref C && PySem.HandSPX.refsVE r) = true := by have := l2.2; rw [hm] at this; exact this
      have l4 := Bool.and_eq_true_iff.mp l3
      have hx := beq_iff_eq.mp l4.1
      refine ⟨cd.name, cd.qualname, cd.ns, cd.bases, r, cd.slotNames, cd.subclasses, cd.abstract, cd.collection, od, s0, s1, s2, s3, s5, ?_, l4.2⟩
      rw [ho]
      have hc : oc = .type "type" := hc
      have hs : sl = _ := hs
      subst hc hs hx
      cases cd
      cases hm
      cases hdel
      cases hdict
      rfl
  | _ => cases k2.2
/-- what a raised own error with fields asks of the text -/
structure Xc (K : PySem.W.Frag) (C : Addr) : Prop where
  oex : OexC K C
  xf : XfC K C
def xcB (K : PySem.W.Frag) (C : Addr) : Bool := oexB K C && xfB K C
theorem xcB_ok {K : PySem.W.Frag} {C : Addr} (h : xcB K C = true) : Xc K C := let ⟨a, b⟩ := Bool.and_eq_true_iff.mp h; ⟨oexB_ok a, xfB_ok b⟩
/-- __init__(self, x): self.f = x -/
def spI1 (K : PySem.W.Frag) (C : Addr) (f : Str) : Sp := fun vs H Q _ => ∃ a y, vs = [.ref a, y] ∧ OexC K C ∧ findIn K (.ref C) f = some none ∧ H a = some (exo a C none) ∧
  ∀ d, H d = none → d ≠ a → Q .non (upd (upd H d (exd d [(f, y)])) a (exo a C (some d)))
theorem init1_ok {P : Program} {w : World} {K : PySem.W.Frag} {mg : Str → Option Value} {base : Heap} {f C : Addr} {fd : FuncData} {nm qual x fld : Str} {params : Arguments} {body : List Stmt} {scope : Scope} {k : Nat} {CX : CXT}
    (F : FunD K nm qual params body scope [] [] f fd) (S : FnScope ["self", x] ["self", x] scope)
    (h : ∀ (cdv : Value) (A : Around) (outer : List Env) (s : Shared) (H : Hp) (E : XK), PSs (cxOf CX P w K mg base ["self", x] qual scope f cdv A outer s H E) body (tOst K fld (tVar 0) (tVar 1))) : FnOk P w K mg base CX (k + 1) f fd ["self", x] (spI1 K C fld) :=
  F.ok S (fun vs H Q E ⟨a, y, e, _⟩ => by rw [e]; rfl) fun cdv A outer s H vs Q E hr ⟨a, y, e, T, hno, ha, q⟩ => ⟨_, h cdv A outer s H E, by
    subst e
    exact ⟨y, rfl, .ref a, rfl, a, C, rfl, T, hno, .inl ⟨ha, q⟩⟩⟩
/-- an own error class made without arguments: a new object, no fields -/
theorem pmk_zero {X : Cx} {C : Addr} {mros : List Value} {base new ini : String} {x : Str} {p pos : Pos} (facts : PySem.ExcBaseFacts base new ini mros) (known : excIn X.K C mros new = true) (here : X.mg x = some (.ref C)) (kept : keepIn X.K (.ref C) = true) (up : Raises X (.ref C)) (glob : Gl X x)
    (plain : (x == ("__debug__" : Str)) = false := by decide) : PMk X (.Call (.Name x p) [] [] pos) (fun _ H Q => Q (.ref C) none H) := fun pins s sg H Q I want => by
  obtain ⟨mro, ns, cn, qn, bases, dct, slots, subs, abst, coll, dd, a0, a1, a2, a3, a5, mN, look, space, noInit, tail⟩ := exc_obj I.kIn known
  have made := PySem.wpAny_call_exc_subT (prog := X.prog) (w := X.w) (A := X.A) (Q := MkP X pins sg Q) (E := X.xe) (rest := []) facts tail look space noInit (fun h' e new => mk_of (I.tok _) new up want (I.hok.gone new.new)) (Nat.zero_le _)
  exact wpAny_Call_Name_kw (ld_glob (pos := p) (E := X.xe) I glob here (callWith_K0 (first := []) I.kIn kept made) plain)

section
variable {K : PySem.W.Frag} {B F F0 : Hp} {ro : Ro} {ka k1 k2 k3 kr : Cells} {ta : List (V × W)} {sg : L2.St} {H H' : Hp} {te tf tg : TE} {tr : TA} {tt : TT} {w x y z : W} {n : Nd} {C dx a : Addr} {fs : List (Str × D)} {b : Bool} {P : L2.St → Hp → Prop}
theorem mk1_of {fld : Str} {d : D} {Q : XK} (ha : EvA K tr ro ka [.val d] k1) (T : OexC K C) (hno : findIn K (.ref C) fld = some none) (e : En K B F0 ro ka ta sg H)
    (q : ∀ dx H', En K B F0 ro (k1 ++ [(dx, .xd [(fld, d)])]) ta sg H' → Q (.ref C) (some dx) H') : tMkO C (spI1 K C fld) [] tr sg H Q := ha B F0 ta sg H _ e fun vs H1 hl e1 => by
  match vs, hl with
  | [v], _ =>
    refine ⟨by show 1 ≤ 1000; omega, fun a hna => ⟨a, v, rfl, T, hno, upd_same, fun dd hd hne => ⟨rfl, dd, [(fld, v)], upd_same, ?_, ?_, ?_⟩⟩⟩
    · rw [upd_ne hne, upd_same]
    · rwa [upd_ne hne] at hd
    · have hd1 : H1 dd = none := by rwa [upd_ne hne] at hd
      have eH : upd (del (upd (upd (upd H1 a (exo a C none)) dd (exd dd [(fld, v)])) a (exo a C (some dd))) a) dd (.xd [(fld, v)]) = upd H1 dd (.xd [(fld, v)]) := by
        funext b
        by_cases h1 : b = dd
        · subst h1
          rw [upd_same, upd_same]
        · rw [upd_ne h1, upd_ne h1]
          by_cases h2 : b = a
          · subst h2
            rw [del_same, hna]
          · rw [del_ne h2, upd_ne h2, upd_ne h1, upd_ne h2]
      rw [eH]
      obtain ⟨F, g, e1⟩ := e1
      have hv : WOk K B F v (.val d) := e1.tm _ (List.mem_append_left _ List.mem_cons_self)
      exact q dd _ ⟨F, g, (e1.cell (o := .xd [(fld, v)]) hd1 (n := .xd [(fld, d)]) ⟨_, upd_same, v, [], rfl, hv, rfl⟩).held fun p hp => List.mem_append_right _ hp⟩
theorem En.leaveX (e : En K B F0 ro ka ta sg H) : En K B F0 [] ka [] [] H :=
  let ⟨F, g, q⟩ := e
  ⟨F, g, (q.frame (ro' := []) (sg' := []) rfl fun i w h => by simp at h).held fun p hp => by cases hp⟩
theorem g_raise1 {fld : Str} {d : D} {out : Out → Cells → Prop} {E : XK} (hX : RxOk K B F0 out E) (ha : EvA K tr ro ka [.val d] k1) (T : OexC K C) (hno : findIn K (.ref C) fld = some none) (o : out (.exc C [(fld, d)]) k1) :
    Gp K B F0 ta (fun σ H => tMkO C (spI1 K C fld) [] tr σ H fun cls dd H' => E cls dd H') ro ka := fun sg H e => mk1_of ha T hno e fun dx H' e' => hX.1 C _ k1 dx H' o e'.leaveX
theorem g_raise0 {out : Out → Cells → Prop} {E : XK} (hX : RxOk K B F0 out E) (o : out (.exc0 C) ka) : Gp K B F0 ta (fun σ H => E (.ref C) none H) ro ka := fun sg H e => hX.2 C ka H o e.leaveX

/-! ### conversions -/
def rTupU (K : PySem.W.Frag) : List V → Hp → VK → Prop := fun xs H Q => ∃ p ys, xs = [.ref p] ∧ ((SqL K H p ys ∧ ∀ l, H l = none → Q (.ref l) (upd H l (.tup ys))) ∨ (SqT K H p ys ∧ Q (.ref p) H))
def rLstU (K : PySem.W.Frag) : List V → Hp → VK → Prop := fun xs H Q => ∃ p ys, xs = [.ref p] ∧ (SqL K H p ys ∨ SqT K H p ys) ∧ ∀ l, H l = none → Q (.ref l) (upd H l (.lst ys))
def rIntU : List V → Hp → VK → Prop := fun xs H Q => (∃ i, xs = [.int i] ∧ Q (.int i) H) ∨ ∃ k, xs = [.bl k] ∧ Q (.int (if k then 1 else 0)) H
theorem call_tupU {X : Cx} : CallR X (.type "tuple") (rTupU X.K) := call_tuple_of
theorem call_lstU {X : Cx} : CallR X (.type "list") (rLstU X.K) := call_list_of
theorem call_intU {X : Cx} : CallR X (.type "int") rIntU := call_int1
theorem rpl_imm {F G : Hp} : ∀ {ds : List D} {xs : List V}, ds.all imm = true → RpL K F ds xs → RpL K G ds xs
  | [], _, _, h => h
  | d :: ds, xs, hi, h => by
    obtain ⟨x, ys, rfl, h1, h2⟩ := h
    rw [List.all_cons, Bool.and_eq_true] at hi
    exact ⟨x, ys, rfl, imm_any hi.1 h1, rpl_imm hi.2 h2⟩
/-- a sequence's items may be told as frozen -/
def SqF (b : Bool) (ds : List D) : Prop := b = false ∨ ds.all imm = true
theorem SqF.to {ds : List D} {xs : List V} (h : SqF b ds) (r : RpL K (if b then uni B F else F) ds xs) : RpL K F ds xs := by
  rcases h with h | h
  · subst h; exact r
  · exact rpl_imm h r
theorem rc_tupL {ds : List D} (l : Lk ka w false ds b) (hf : SqF b ds) : RcD K (rTupU K) ka [w] (.val (.tup ds)) := fun B F0 ro ta sg H us Q e hl hm q => by
  obtain ⟨u, rfl, hu⟩ := zip_one hl hm
  obtain ⟨F, g, e⟩ := e
  obtain ⟨a, xs, rfl, h1, h2⟩ := l.get e (e.tm _ hu)
  have r2 := hf.to h2
  refine ⟨a, xs, rfl, .inl ⟨.inl h1, fun p hp => q _ _ ?_⟩⟩
  obtain ⟨e4, g4⟩ := e.lay (o := .tup xs) hp rfl
  exact ⟨_, g.trans g4, e4.push ⟨p, _, rfl, .inl (.inl upd_same), RpL.mono g4.sub.exz e.nz _ _ r2⟩⟩
theorem rcn_lst {t : Bool} {ds : List D} (l : Lk ka w t ds b) (hf : SqF b ds) : RcN K (rLstU K) ka [w] (.lst ds) := fun B F0 ro ta sg H us Q e hl hm q => by
  obtain ⟨u, rfl, hu⟩ := zip_one hl hm
  obtain ⟨F, g, e⟩ := e
  obtain ⟨a, xs, rfl, h1, h2⟩ := l.at e (e.tm _ hu)
  have r2 := hf.to h2
  exact ⟨a, xs, rfl, h1, fun p hp => q p _ ⟨F, g, e.cell (o := .lst xs) hp (n := .lst ds) ⟨_, upd_same, r2⟩⟩⟩
theorem rc_int {i : Int} : RcD K rIntU ka [.val (.int i)] (.val (.int i)) := fun B F0 ro ta sg H us Q e hl hm q => by
  obtain ⟨u, rfl, hu⟩ := zip_one hl hm
  obtain rfl := e.tm_int hu
  exact .inl ⟨i, rfl, q _ _ (e.push_imm fun _ => rfl)⟩
theorem rpl_bls {F : Hp} : ∀ {bs : List Bool} {xs : List V}, RpL K F (bs.map D.bl) xs → xs = bs.map V.bl
  | [], _, h => h
  | b :: bs, xs, h => by
    obtain ⟨x, ys, rfl, h1, h2⟩ := h
    rw [show x = V.bl b from h1, rpl_bls h2]
    rfl
theorem rc_all {bs : List Bool} (l : Lk ka w false (bs.map D.bl) b) : RcD K (rAll K) ka [w] (.val (.bl (bs.all id))) := fun B F0 ro ta sg H us Q e hl hm q => by
  obtain ⟨u, rfl, hu⟩ := zip_one hl hm
  obtain ⟨F, g, e⟩ := e
  obtain ⟨a, xs, rfl, h1, h2⟩ := l.get e (e.tm _ hu)
  have := rpl_bls h2
  subst this
  exact ⟨a, bs, rfl, .inl h1, q _ _ ⟨F, g, e.push rfl⟩⟩
theorem rc_any {bs : List Bool} (l : Lk ka w false (bs.map D.bl) b) : RcD K (rAny K) ka [w] (.val (.bl (bs.any id))) := fun B F0 ro ta sg H us Q e hl hm q => by
  obtain ⟨u, rfl, hu⟩ := zip_one hl hm
  obtain ⟨F, g, e⟩ := e
  obtain ⟨a, xs, rfl, h1, h2⟩ := l.get e (e.tm _ hu)
  have := rpl_bls h2
  subst this
  exact ⟨a, bs, rfl, .inl h1, q _ _ ⟨F, g, e.push rfl⟩⟩
/-- a sign in a text -/
theorem rv_inS {c : Nat} {s : Str} : RvD K rInS ka (.val (.str ⟨#[c]⟩)) (.val (.str s)) (.val (.bl (decide (c ∈ s.cps.toList)))) := fun B F0 ro ta sg H u v Q e h1 h2 q =>
  ⟨c, s, e.tm_str h1, e.tm_str h2, q _ _ (e.push_imm fun _ => rfl)⟩
theorem rpl_ints {F : Hp} : ∀ (zs : List Int), RpL K F (zs.map D.int) (zs.map V.int)
  | [] => rfl
  | z :: zs => ⟨.int z, _, rfl, rfl, rpl_ints zs⟩
/-- a slot's cell is frozen -/
theorem Gp.frz {i j : Nat} {ds : List D} (hi : ro[i]? = some (some (.val (.adr a)))) (hj : ka[j]? = some (a, .lst ds)) (h : Gp K B F0 ta P (ro.set i (some (.val (.lst ds)))) (ka.eraseIdx j)) : Gp K B F0 ta P ro ka := fun sg H e => by
  have hp : (ka.eraseIdx j ++ [(a, Nd.lst ds)]).Perm ka := by
    have hlt := (List.getElem?_eq_some_iff.mp hj).1
    have h2 : ka[j] = (a, Nd.lst ds) := (List.getElem?_eq_some_iff.mp hj).2
    have e3 : ka = ka.take j ++ (a, Nd.lst ds) :: ka.drop (j + 1) := by
      rw [← h2, List.getElem_cons_drop, List.take_append_drop]
    rw [List.eraseIdx_eq_take_drop_succ]
    refine List.Perm.trans List.perm_append_comm ?_
    show (((a, Nd.lst ds)) :: (ka.take j ++ ka.drop (j + 1))).Perm ka
    refine List.Perm.trans List.perm_middle.symm ?_
    rw [← e3]
  obtain ⟨F, g, e2⟩ := (e.perm hp).freeze_l
  refine h sg H ⟨F, g, (e2.frame (ro' := ro.set i (some (.val (.lst ds)))) (sg' := sg) (by rw [List.length_set]; exact e2.ln) fun k w q => ?_).held fun p hp => List.mem_cons_of_mem _ hp⟩
  by_cases hik : i = k
  · subst hik
    have hl := (List.getElem?_eq_some_iff.mp hi).1
    rw [List.getElem?_set_self hl] at q
    cases q
    obtain ⟨v, h1, h2⟩ := e2.sl i _ hi
    obtain rfl : v = .ref a := h2
    exact ⟨.ref a, h1, e2.tm _ List.mem_cons_self⟩
  · rw [List.getElem?_set_ne hik] at q
    exact e2.sl k w q
end
end DL

/-! DK: what the head tells of a text's defs and classes (own work). -/
namespace DL
open PySem L2 PySem.W

/-! the picture of a def: all that the text fixes of it -/
structure Pic where
  nm : Str
  qn : Str
  pars : Arguments
  code : FuncBody
  sco : Scope
  env : Addr × Addr
  clo : List (Str × Addr)
def picOf (f : FuncData) : Pic := ⟨f.name, f.qualname, f.params, f.body, f.scope, (f.globals, f.builtins), f.closure⟩
def asFn : Data → Option FuncData
  | .func f => some f
  | _ => none
def fnAt (K : PySem.W.Frag) (a : Addr) : Option FuncData := (K.lookup a).bind fun o => asFn o.data
theorem asFn_some {dt : Data} {f : FuncData} (h : asFn dt = some f) : dt = .func f := by
  cases dt <;> first | (cases h; rfl) | cases h
theorem fnAt_some {K : PySem.W.Frag} {a : Addr} {f : FuncData} (h : fnAt K a = some f) : ∃ o, K.lookup a = some o ∧ o.data = .func f := by
  obtain ⟨o, h1, h2⟩ := Option.bind_eq_some_iff.mp h
  exact ⟨o, h1, asFn_some h2⟩
/-- a def of the text: where it stands, its picture, its defaults -/
structure Df where
  at_ : PySem.W.Frag → Addr
  name : Str
  qual : Str
  params : Arguments
  body : List Stmt
  scope : Scope
  dfs : PySem.W.Frag → List V
def Df.pic (d : Df) : Pic := ⟨d.name, d.qual, d.params, .stmts d.body, d.scope, (mainGlobals, builtinsNs), []⟩
def Df.good (K : PySem.W.Frag) (d : Df) : Bool := keepIn K (.ref (d.at_ K)) && (fnAt K (d.at_ K)).any fun f => codeIn K f.code d.qual && (He.dflB K f.defaults (d.dfs K) && He.kwdB K f.kwdefaults [])
theorem Df.known {K : PySem.W.Frag} {d : Df} (e : (fnAt K (d.at_ K)).map picOf = some d.pic) (c : d.good K = true) : ∃ fd, FunD K d.name d.qual d.params d.body d.scope (d.dfs K) [] (d.at_ K) fd := by
  have c' := Bool.and_eq_true_iff.mp c
  cases hf : fnAt K (d.at_ K) with
  | none =>
    rw [hf] at e
    cases e
  | some f =>
    rw [hf] at e c'
    have c2 : (codeIn K f.code d.qual && (He.dflB K f.defaults (d.dfs K) && He.kwdB K f.kwdefaults [])) = true := c'.2
    have c3 := Bool.and_eq_true_iff.mp c2
    have c4 := Bool.and_eq_true_iff.mp c3.2
    obtain ⟨o, lk, hd⟩ := fnAt_some hf
    have same : f = PySem.W.fnOf d.name d.qual d.params d.body d.scope f.defaults f.kwdefaults f.doc f.pyModule f.annotations f.code f.closureTuple := by
      have e1 : picOf f = d.pic := Option.some.inj e
      have n := congrArg Pic.nm e1
      have qn := congrArg Pic.qn e1
      have ps := congrArg Pic.pars e1
      have bd := congrArg Pic.code e1
      have sc := congrArg Pic.sco e1
      have ev := congrArg Pic.env e1
      have cl := congrArg Pic.clo e1
      have g := congrArg Prod.fst ev
      have bt := congrArg Prod.snd ev
      cases f
      cases n; cases qn; cases ps; cases bd; cases sc; cases cl; cases g; cases bt
      rfl
    have lk2 : K.lookup (d.at_ K) = some ⟨o.cls, o.dict, .func f, o.slots⟩ := by
      rw [lk, ← hd]
    exact ⟨f, ⟨o.cls, o.dict, f.defaults, f.kwdefaults, f.doc, f.pyModule, f.annotations, f.code, f.closureTuple, o.slots, same, lk2, c3.1, He.dflB_ok c4.1, He.kwdB_ok c4.2⟩, c'.1⟩
abbrev Fx := PySem.W.Frag → Bool
/-- all facts and all defs of a text, looked at in one heap -/
abbrev AlY : Type := Bool × List (Option Pic)
def lookY (ex : List Fx) (fn : List Df) (K : PySem.W.Frag) : AlY := (ex.all (· K) && fn.all (Df.good K), fn.map fun d => (fnAt K (d.at_ K)).map picOf)
def dueY (fn : List Df) : AlY := (true, fn.map fun d => some d.pic)
def SaysY (ex : List Fx) (fn : List Df) (K : PySem.W.Frag) : Prop := lookY ex fn K = dueY fn
section
variable {ex : List Fx} {fn : List Df} {K : PySem.W.Frag}
theorem SaysY.both (c : SaysY ex fn K) : (∀ f ∈ ex, f K = true) ∧ ∀ d ∈ fn, Df.good K d = true := by
  have c1 : (ex.all (· K) && fn.all (Df.good K)) = true := congrArg Prod.fst c
  rw [Bool.and_eq_true, List.all_eq_true, List.all_eq_true] at c1
  exact c1
theorem SaysY.fact (c : SaysY ex fn K) (i : Nat) {f : Fx} (h : ex[i]? = some f := by rfl) : f K = true := c.both.1 f (List.mem_of_getElem? h)
theorem SaysY.def_ (c : SaysY ex fn K) (i : Nat) {d : Df} (h : fn[i]? = some d := by rfl) : ∃ fd, FunD K d.name d.qual d.params d.body d.scope (d.dfs K) [] (d.at_ K) fd := by
  refine Df.known ?_ (c.both.2 d (List.mem_of_getElem? h))
  have e := congrArg (fun z : AlY => z.2[i]?) c
  simp only [lookY, dueY, List.getElem?_map, h, Option.map_some, Option.some.injEq] at e
  exact e
end
/-! ### the facts, by Bool -/
section
variable {K : PySem.W.Frag} {C : Addr}
def fGlo (x : Str) : Fx := fun K => (He.Fa.glo x).ok K && keepIn K (.ref (He.ga K x))
def fFree (x : Str) : Fx := fun K => (He.Fa.free x).ok K
def fStr (x z : Str) : Fx := fun K => (He.Fa.str x z).ok K
def fInt (x : Str) (i : Int) : Fx := fun K => (He.Fa.int x i).ok K
def fCls (x : Str) : Fx := fun K => (He.Fa.cls x).ok K
def fMkr (x : Str) : Fx := fun K => (He.Fa.mkr x).ok K
def fNoat (x f : Str) : Fx := fun K => (He.Fa.noat x f).ok K
def fMeth (x m : Str) : Fx := fun K => (He.Fa.meth x m).ok K
def fSm (x m : Str) : Fx := fun K => He.eqO (findIn K (.ref (He.ga K x)) m) (some (some (.ref (He.ma K (He.ga K x) m)))) && isFn K (.ref (He.ma K (He.ga K x) m))
theorem sm_ok {x m : Str} (h : fSm x m K = true) : Sm K (He.ga K x) m (He.ma K (He.ga K x) m) := let ⟨a, b⟩ := He.ba h; ⟨He.eqO_ok a, b⟩
def fClsI (x : Str) : Fx := fun K => (He.Fa.cls x).ok K && (He.eqO (findIn K (.ref (He.ga K x)) "__class__") (some (some (.builtin "object.__class__"))) && (He.eqO (specialIn K (.builtin "object.__class__") "__get__") (some (some (.builtin "getset_descriptor.__get__"))) &&
  (decide (takesIn K (.builtin "object.__class__") = some true) && decide (mroIn K (He.ga K x) (.type "object") = some true))))
theorem clsI_ok {x : Str} (h : fClsI x K = true) : ClsI K (He.ga K x) := by
  obtain ⟨h1, h⟩ := He.ba h
  obtain ⟨h2, h⟩ := He.ba h
  obtain ⟨h3, h⟩ := He.ba h
  obtain ⟨h4, h5⟩ := He.ba h
  exact ⟨He.cls_ok h1, He.eqO_ok h2, He.eqO_ok h3, of_decide_eq_true h4, of_decide_eq_true h5⟩
def fBo (x : Str) (op : Operator) : Fx := fun K => selfFirst K (He.ga K x) && (fSm x (PySem.dunder op.info.2) K && He.eqO (findIn K (.ref (He.ga K x)) (dunderR op.info.2)) (some none))
theorem bo_ok {x : Str} {op : Operator} (h : fBo x op K = true) : Bo K (He.ga K x) op (He.ma K (He.ga K x) (PySem.dunder op.info.2)) := by
  obtain ⟨h1, h⟩ := He.ba h
  obtain ⟨h2, h3⟩ := He.ba h
  exact ⟨h1, sm_ok h2, He.eqO_ok h3⟩
def fBoT (x : Str) (op : Operator) (T : String) : Fx := fun K => (findIn K (.type T) (PySem.dunder op.info.2)).isSome && ((findIn K (.type T) (dunderR op.info.2)).isSome && decide (subIn K (.type T) (.ref (He.ga K x)) = some false))
theorem boT_ok {x : Str} {op : Operator} {T : String} (h : fBoT x op T K = true) : BoT K (He.ga K x) op T := by
  obtain ⟨h1, h⟩ := He.ba h
  obtain ⟨h2, h3⟩ := He.ba h
  exact ⟨Option.isSome_iff_exists.mp h1, Option.isSome_iff_exists.mp h2, of_decide_eq_true h3⟩
def fXc (x : Str) : Fx := fun K => xcB K (He.ga K x)
def fXi (x : Str) : Fx := fun K => He.eqO (findIn K (.ref (He.ga K x)) "__init__") (some (some (.ref (He.ma K (He.ga K x) "__init__")))) && decide (typeIn K (.ref (He.ma K (He.ga K x) "__init__")) = some (.type "function"))
theorem xi_ok {x : Str} (h : fXi x K = true) : findIn K (.ref (He.ga K x)) "__init__" = some (some (.ref (He.ma K (He.ga K x) "__init__"))) ∧ typeIn K (.ref (He.ma K (He.ga K x) "__init__")) = some (.type "function") := let ⟨a, b⟩ := He.ba h; ⟨He.eqO_ok a, of_decide_eq_true b⟩
def fX0 (x : Str) : Fx := fun K => (He.Fa.exc x).ok K
def fKit (t T : String) (b : Bool) : Fx := fun K => decide (kitOne K (.type t) (.type T) = some b)
theorem kit_ok {t T : String} {b : Bool} (h : fKit t T b K = true) : kitOne K (.type t) (.type T) = some b := of_decide_eq_true h
/-- is a t an own x -/
def fKitC (t : String) (x : Str) (b : Bool) : Fx := fun K => decide (kitOne K (.type t) (.ref (He.ga K x)) = some b)
theorem kitC_ok {t : String} {x : Str} {b : Bool} (h : fKitC t x b K = true) : kitOne K (.type t) (.ref (He.ga K x)) = some b := of_decide_eq_true h
/-- is an own y an own x -/
def fKitO (y x : Str) (b : Bool) : Fx := fun K => decide (kitOne K (.ref (He.ga K y)) (.ref (He.ga K x)) = some b)
theorem kitO_ok {y x : Str} {b : Bool} (h : fKitO y x b K = true) : kitOne K (.ref (He.ga K y)) (.ref (He.ga K x)) = some b := of_decide_eq_true h
end
/-! ### words of the derivations -/
section
variable {X : Cx} {E : XK}
theorem pass_own {E₁ : Value → Shared → Prop} (hs : X.stack = X.env :: X.outer) (hf : X.env.frame = some X.env.locals) (hex : X.ex = []) (hx : X.xe = fun e s' => wpAny (model X.prog X.w) X.A (leaving X.env e) (fun _ s'' => L2.CX X.prog X.w X.outer X.H_0 X.s_0 E e s'') E₁ s') : Passes (L2.CX X.prog X.w) X E :=
  passes_call (takes_of hs hf hex hx) fun _ _ _ _ h => h
def rMulU : R2 := fun x y H Q => rI PySem.IntMulOk (fun i j => .int (i * j)) x y H Q ∨ rRep x y H Q
theorem op_mulU : OpR X (binaryOp .Mult) rMulU := OpR.or (opI fun _ _ _ _ _ _ _ hc q => PyProof.Rows.mul_int q hc) op_rep
def rInU (K : PySem.W.Frag) : R2 := fun x y H Q => rInS x y H Q ∨ rIn K false x y H Q
theorem op_inU : OpR X (compareOp .In) (rInU X.K) := op_inS.or op_in_seq
def rNiU (K : PySem.W.Frag) : R2 := fun x y H Q => rNotInS x y H Q ∨ rIn K true x y H Q
theorem op_niU : OpR X (compareOp .NotIn) (rNiU X.K) := op_notInS.or op_notIn_seq
end
end DL

/-! DK2: the head's look, from the names that a text wants alone (own work). -/
namespace DL
open PySem L2 PySem.W
/-- the addresses that are not yet in the mask m, each once -/
def freshA {α : Type} : List Addr → Nat → List Addr → (List Addr → Nat → α) → α
  | [], m, acc, k => k acc m
  | a :: r, m, acc, k => HandSHeadRun.frNat a fun b => if Nat.beq ((m >>> b) % 2) 1 then freshA r m acc k else HandSHeadRun.frNat (m + (1 <<< b)) fun m2 => freshA r m2 (b :: acc) k
/-- what these reach in n steps -/
def walkA (g : Addr → Option Obj) : Nat → Nat → List Addr → List Addr → List Addr
  | 0, _, _, all => all
  | n + 1, m, fr, all => freshA (fr.flatMap fun a => match g a with
      | some o => He.refsD o
      | none => []) m [] fun new m2 => walkA g n m2 new (all ++ new)
def rootsA (g : Addr → Option Obj) (nm : List Str) : List Addr := nm.filterMap fun x => match nsIn (He.frG g [mainGlobals]) mainGlobals x with
  | some (some (.ref a)) => some a
  | _ => none
def asZ (g : Addr → Option Obj) (nm : List Str) (n : Nat) : List Addr := freshA (rootsA g nm) ((1 <<< mainGlobals) ||| (1 <<< builtinsNs)) [] fun rs m => mainGlobals :: walkA g n m rs rs
def obsZG (n : Nat) (nm : List Str) (ex : List Fx) (fn : List Df) (g : Addr → Option Obj) : AlY := lookY ex fn (He.frG g (asZ g nm n))
def hookZ (n : Nat) (nm : List Str) (ex : List Fx) (fn : List Df) : PySem.W.Hook :=
  { α := AlY, obs := fun s => obsZG n nm ex fn s.heap.get?, val := fun _ => dueY fn, says := fun _ h => ∃ K : PySem.W.Frag, K.In h ∧ SaysY ex fn K,
    of := fun _ _ e => ⟨_, He.frG_in, e⟩,
    keeps := fun _ _ _ w k => w.elim fun K z => ⟨K, PySem.W.Frag.In.keeps z.1 k, z.2⟩ }
theorem obsZG_eq {n : Nat} {nm : List Str} {ex : List Fx} {fn : List Df} {g : Addr → Option Obj} {s : Shared} (h : ∀ a, g a = s.heap.get? a) : obsZG n nm ex fn g = (hookZ n nm ex fn).obs s :=
  congrArg (obsZG n nm ex fn) (funext h)
def isII : List Value → Bool
  | [.int _ _, .int _ _] => true
  | _ => false
/-- no tuple of the text is a pair of numbers -/
def NoP (K : PySem.W.Frag) : Prop := ∀ (a : Addr) (o : Obj) (its : Array Value) (n : Nat), K.lookup a = some o → o.cls = .type "tuple" → o.data = .seq its n → isII its.toList = false
def noP1 : Obj → Bool
  | ⟨.type T, _, .seq its _, _⟩ => !(decide (T = "tuple") && isII its.toList)
  | _ => true
def fNoP : Fx := fun K => K.all fun p => noP1 p.2
end DL



namespace K14
open PySem L2 DL PySem.W
abbrev top (i : Nat) : Stmt := PySem.Challenge.pw_alsoshown_k14_patterns_compared.main.body.getD i (.Pass ⟨0, 0, 0, 0⟩)
def clsBody : Stmt → List Stmt
  | .ClassDef (body := b) .. => b
  | _ => []
abbrev mth (i j : Nat) : Stmt := (clsBody (top i)).getD j (.Pass ⟨0, 0, 0, 0⟩)
abbrev s_is_name : Stmt := top 19
abbrev s_is_whole : Stmt := top 20
abbrev s_is_count : Stmt := top 21
abbrev s_are_names : Stmt := top 22
abbrev s_check_lanes : Stmt := top 36
abbrev s_crossed : Stmt := top 11
abbrev s_read_tree : Stmt := top 10
abbrev s_Machine___init : Stmt := mth 8 0
abbrev s_made_machine : Stmt := top 9
abbrev s_Machine_takes : Stmt := mth 8 1
abbrev s_Machine_is_behind : Stmt := mth 8 3
abbrev s_Machine_after : Stmt := mth 8 2
abbrev s_Machine_started : Stmt := mth 8 5
abbrev s_Machine_is_done : Stmt := mth 8 6
abbrev s_accepts : Stmt := top 12
abbrev s_all_names : Stmt := top 13
abbrev s_least_parting : Stmt := top 14
abbrev s_joined : Stmt := top 38
abbrev s_Pattern___init : Stmt := mth 44 0
abbrev s_Pattern___contains : Stmt := mth 44 4
abbrev s_Pattern___add : Stmt := mth 44 6
abbrev s_Pattern___or : Stmt := mth 44 7
abbrev s_Pattern___mul : Stmt := mth 44 8
abbrev s_any_of : Stmt := top 45
abbrev s_none_of : Stmt := top 46
abbrev s_repeated : Stmt := top 48
abbrev s_optional : Stmt := top 49
abbrev s_word_pattern : Stmt := top 47
abbrev s_as_pattern : Stmt := top 50
abbrev s_machine_of : Stmt := top 51
abbrev s_within : Stmt := top 52
abbrev s_parting : Stmt := top 53
abbrev s_law_cell : Stmt := top 55
abbrev s_law_pool : Stmt := top 56
abbrev s_law_take : Stmt := top 57
abbrev s_law_names : Stmt := top 58
abbrev s_law_tree : Stmt := top 59
abbrev s_law_atom : Stmt := top 60
abbrev s_law_pattern : Stmt := top 61
abbrev s_law_takes : Stmt := top 63
abbrev s_law_distinct : Stmt := top 64
abbrev s_law_ends_of : Stmt := top 62
abbrev s_law_is_word : Stmt := top 65
abbrev s_law_all_words : Stmt := top 66
abbrev s_law_second : Stmt := top 67
abbrev s_law_only : Stmt := top 68
abbrev s_law_right : Stmt := top 69
abbrev s_law_far_parted : Stmt := top 70
abbrev s_law : Stmt := top 71
abbrev s_BadName___init : Stmt := mth 3 0
abbrev s_BadNumber___init : Stmt := mth 6 0
theorem sc_is_name : FnScope ["word", "sign"] ["word"] (defScope s_is_name) := ⟨rfl, rfl, rfl, by decide +kernel, rfl, by decide +kernel, by decide +kernel⟩
theorem sc_is_whole : FnScope ["value"] ["value"] (defScope s_is_whole) := ⟨rfl, rfl, rfl, by decide +kernel, rfl, by decide +kernel, by decide +kernel⟩
theorem sc_is_count : FnScope ["value"] ["value"] (defScope s_is_count) := ⟨rfl, rfl, rfl, by decide +kernel, rfl, by decide +kernel, by decide +kernel⟩
theorem sc_are_names : FnScope ["things", "thing"] ["things"] (defScope s_are_names) := ⟨rfl, rfl, rfl, by decide +kernel, rfl, by decide +kernel, by decide +kernel⟩
theorem sc_check_lanes : FnScope ["lanes", "lane"] ["lanes"] (defScope s_check_lanes) := ⟨rfl, rfl, rfl, by decide +kernel, rfl, by decide +kernel, by decide +kernel⟩
theorem sc_crossed : FnScope ["one", "two", "first", "second"] ["one", "two"] (defScope s_crossed) := ⟨rfl, rfl, rfl, by decide +kernel, rfl, by decide +kernel, by decide +kernel⟩
theorem sc_read_tree : FnScope ["tree", "start", "one", "two", "firsts", "lasts"] ["tree", "start"] (defScope s_read_tree) := ⟨rfl, rfl, rfl, by decide +kernel, rfl, by decide +kernel, by decide +kernel⟩
theorem sc_Machine___init : FnScope ["self", "atoms", "firsts", "lasts", "pairs", "is_optional"] ["self", "atoms", "firsts", "lasts", "pairs", "is_optional"] (defScope s_Machine___init) := ⟨rfl, rfl, rfl, by decide +kernel, rfl, by decide +kernel, by decide +kernel⟩
theorem sc_made_machine : FnScope ["tree", "atoms", "firsts", "lasts", "pairs", "is_optional", "pair"] ["tree"] (defScope s_made_machine) := ⟨rfl, rfl, rfl, by decide +kernel, rfl, by decide +kernel, by decide +kernel⟩
theorem sc_Machine_takes : FnScope ["self", "atom", "lane", "is_any", "names"] ["self", "atom", "lane"] (defScope s_Machine_takes) := ⟨rfl, rfl, rfl, by decide +kernel, rfl, by decide +kernel, by decide +kernel⟩
theorem sc_Machine_is_behind : FnScope ["self", "places", "atom", "place"] ["self", "places", "atom"] (defScope s_Machine_is_behind) := ⟨rfl, rfl, rfl, by decide +kernel, rfl, by decide +kernel, by decide +kernel⟩
theorem sc_Machine_after : FnScope ["self", "places", "lane", "size", "atom"] ["self", "places", "lane"] (defScope s_Machine_after) := ⟨rfl, rfl, rfl, by decide +kernel, rfl, by decide +kernel, by decide +kernel⟩
theorem sc_Machine_started : FnScope ["self", "lane", "atom"] ["self", "lane"] (defScope s_Machine_started) := ⟨rfl, rfl, rfl, by decide +kernel, rfl, by decide +kernel, by decide +kernel⟩
theorem sc_Machine_is_done : FnScope ["self", "places", "place"] ["self", "places"] (defScope s_Machine_is_done) := ⟨rfl, rfl, rfl, by decide +kernel, rfl, by decide +kernel, by decide +kernel⟩
theorem sc_accepts : FnScope ["machine", "lanes", "places", "lane"] ["machine", "lanes"] (defScope s_accepts) := ⟨rfl, rfl, rfl, by decide +kernel, rfl, by decide +kernel, by decide +kernel⟩
theorem sc_all_names : FnScope ["one", "two", "names", "is_any", "known", "name", "number"] ["one", "two"] (defScope s_all_names) := ⟨rfl, rfl, rfl, by decide +kernel, rfl, by decide +kernel, by decide +kernel⟩
theorem sc_least_parting : FnScope ["one", "two", "is_one_sided", "names", "name", "words", "places", "known", "at", "pair", "done"] ["one", "two", "is_one_sided"] (defScope s_least_parting) := ⟨rfl, rfl, rfl, by decide +kernel, rfl, by decide +kernel, by decide +kernel⟩
theorem sc_joined : FnScope ["kind", "one", "two"] ["kind", "one", "two"] (defScope s_joined) := ⟨rfl, rfl, rfl, by decide +kernel, rfl, by decide +kernel, by decide +kernel⟩
theorem sc_Pattern___init : FnScope ["self", "tree"] ["self", "tree"] (defScope s_Pattern___init) := ⟨rfl, rfl, rfl, by decide +kernel, rfl, by decide +kernel, by decide +kernel⟩
theorem sc_Pattern___contains : FnScope ["self", "lanes"] ["self", "lanes"] (defScope s_Pattern___contains) := ⟨rfl, rfl, rfl, by decide +kernel, rfl, by decide +kernel, by decide +kernel⟩
theorem sc_Pattern___add : FnScope ["self", "other"] ["self", "other"] (defScope s_Pattern___add) := ⟨rfl, rfl, rfl, by decide +kernel, rfl, by decide +kernel, by decide +kernel⟩
theorem sc_Pattern___or : FnScope ["self", "other"] ["self", "other"] (defScope s_Pattern___or) := ⟨rfl, rfl, rfl, by decide +kernel, rfl, by decide +kernel, by decide +kernel⟩
theorem sc_Pattern___mul : FnScope ["self", "number", "tree", "turn"] ["self", "number"] (defScope s_Pattern___mul) := ⟨rfl, rfl, rfl, by decide +kernel, rfl, by decide +kernel, by decide +kernel⟩
theorem sc_any_of : FnScope ["names"] ["names"] (defScope s_any_of) := ⟨rfl, rfl, rfl, by decide +kernel, rfl, by decide +kernel, by decide +kernel⟩
theorem sc_none_of : FnScope ["names"] ["names"] (defScope s_none_of) := ⟨rfl, rfl, rfl, by decide +kernel, rfl, by decide +kernel, by decide +kernel⟩
theorem sc_repeated : FnScope ["pattern"] ["pattern"] (defScope s_repeated) := ⟨rfl, rfl, rfl, by decide +kernel, rfl, by decide +kernel, by decide +kernel⟩
theorem sc_optional : FnScope ["pattern"] ["pattern"] (defScope s_optional) := ⟨rfl, rfl, rfl, by decide +kernel, rfl, by decide +kernel, by decide +kernel⟩
theorem sc_word_pattern : FnScope ["names", "tree", "name"] ["names"] (defScope s_word_pattern) := ⟨rfl, rfl, rfl, by decide +kernel, rfl, by decide +kernel, by decide +kernel⟩
theorem sc_as_pattern : FnScope ["thing"] ["thing"] (defScope s_as_pattern) := ⟨rfl, rfl, rfl, by decide +kernel, rfl, by decide +kernel, by decide +kernel⟩
theorem sc_machine_of : FnScope ["thing"] ["thing"] (defScope s_machine_of) := ⟨rfl, rfl, rfl, by decide +kernel, rfl, by decide +kernel, by decide +kernel⟩
theorem sc_within : FnScope ["one", "two", "first"] ["one", "two"] (defScope s_within) := ⟨rfl, rfl, rfl, by decide +kernel, rfl, by decide +kernel, by decide +kernel⟩
theorem sc_parting : FnScope ["one", "two", "first"] ["one", "two"] (defScope s_parting) := ⟨rfl, rfl, rfl, by decide +kernel, rfl, by decide +kernel, by decide +kernel⟩
theorem sc_law_cell : FnScope ["_law_script", "_law_k"] ["_law_script", "_law_k"] (defScope s_law_cell) := ⟨rfl, rfl, rfl, by decide +kernel, rfl, by decide +kernel, by decide +kernel⟩
theorem sc_law_pool : FnScope ["_law_cell_here", "_law_folded"] ["_law_cell_here"] (defScope s_law_pool) := ⟨rfl, rfl, rfl, by decide +kernel, rfl, by decide +kernel, by decide +kernel⟩
theorem sc_law_take : FnScope ["_law_pool_here", "_law_many", "_law_draw", "_law_mixed"] ["_law_pool_here", "_law_many"] (defScope s_law_take) := ⟨rfl, rfl, rfl, by decide +kernel, rfl, by decide +kernel, by decide +kernel⟩
theorem sc_law_names : FnScope ["_law_pool_here", "_law_many", "_law_letters", "_law_signs", "_law_word", "_law_k", "_law_kind", "_law_start", "_law_stem", "_law_place", "_law_told", "_law_names_here", "_law_sign"] ["_law_pool_here", "_law_many"] (defScope s_law_names) := ⟨rfl, rfl, rfl, by decide +kernel, rfl, by decide +kernel, by decide +kernel⟩
theorem sc_law_tree : FnScope ["_law_pool_here", "_law_lanes", "_law_depth", "_law_kind", "_law_many", "_law_k", "_law_some", "_law_one", "_law_two"] ["_law_pool_here", "_law_lanes", "_law_depth"] (defScope s_law_tree) := ⟨rfl, rfl, rfl, by decide +kernel, rfl, by decide +kernel, by decide +kernel⟩
theorem sc_law_atom : FnScope ["_law_kind", "_law_names_here"] ["_law_kind", "_law_names_here"] (defScope s_law_atom) := ⟨rfl, rfl, rfl, by decide +kernel, rfl, by decide +kernel, by decide +kernel⟩
theorem sc_law_pattern : FnScope ["_law_tree_here", "_law_one", "_law_two"] ["_law_tree_here"] (defScope s_law_pattern) := ⟨rfl, rfl, rfl, by decide +kernel, rfl, by decide +kernel, by decide +kernel⟩
theorem sc_law_takes : FnScope ["_law_atom_here", "_law_lane"] ["_law_atom_here", "_law_lane"] (defScope s_law_takes) := ⟨rfl, rfl, rfl, by decide +kernel, rfl, by decide +kernel, by decide +kernel⟩
theorem sc_law_distinct : FnScope ["_law_things", "_law_k", "_law_thing"] ["_law_things"] (defScope s_law_distinct) := ⟨rfl, rfl, rfl, by decide +kernel, rfl, by decide +kernel, by decide +kernel⟩
theorem sc_law_ends_of : FnScope ["_law_tree_here", "_law_lanes", "_law_start", "_law_found", "_law_place", "_law_at"] ["_law_tree_here", "_law_lanes", "_law_start"] (defScope s_law_ends_of) := ⟨rfl, rfl, rfl, by decide +kernel, rfl, by decide +kernel, by decide +kernel⟩
theorem sc_law_is_word : FnScope ["_law_tree_here", "_law_lanes"] ["_law_tree_here", "_law_lanes"] (defScope s_law_is_word) := ⟨rfl, rfl, rfl, by decide +kernel, rfl, by decide +kernel, by decide +kernel⟩
theorem sc_law_all_words : FnScope ["_law_names_here", "_law_most", "_law_rows", "_law_found", "_law_length", "_law_longer", "_law_row", "_law_name"] ["_law_names_here", "_law_most"] (defScope s_law_all_words) := ⟨rfl, rfl, rfl, by decide +kernel, rfl, by decide +kernel, by decide +kernel⟩
theorem sc_law_second : FnScope ["_law_pool_here", "_law_names_here", "_law_one", "_law_kind"] ["_law_pool_here", "_law_names_here", "_law_one"] (defScope s_law_second) := ⟨rfl, rfl, rfl, by decide +kernel, rfl, by decide +kernel, by decide +kernel⟩
theorem sc_law_only : FnScope ["_law_one", "_law_two", "_law_words", "_law_lanes"] ["_law_one", "_law_two", "_law_words"] (defScope s_law_only) := ⟨rfl, rfl, rfl, by decide +kernel, rfl, by decide +kernel, by decide +kernel⟩
theorem sc_law_right : FnScope ["_law_one", "_law_two", "_law_words", "_law_longer", "_law_first", "_law_second_here", "_law_here", "_law_there", "_law_found", "_law_lanes"] ["_law_one", "_law_two", "_law_words", "_law_longer"] (defScope s_law_right) := ⟨rfl, rfl, rfl, by decide +kernel, rfl, by decide +kernel, by decide +kernel⟩
theorem sc_law_far_parted : FnScope ["_law_name", "_law_number", "_law_single", "_law_one", "_law_two", "_law_letters", "_law_found"] ["_law_name", "_law_number"] (defScope s_law_far_parted) := ⟨rfl, rfl, rfl, by decide +kernel, rfl, by decide +kernel, by decide +kernel⟩
theorem sc_law : FnScope ["_law_script", "_law_pool_here", "_law_names_here", "_law_words", "_law_one", "_law_two", "_law_longer", "_law_k", "_law_turn", "_law_walk", "_law_tree_here", "_law_name", "_law_due"] ["_law_script"] (defScope s_law) := ⟨rfl, rfl, rfl, by decide +kernel, rfl, by decide +kernel, by decide +kernel⟩
theorem sc_BadName___init : FnScope ["self", "name"] ["self", "name"] (defScope s_BadName___init) := ⟨rfl, rfl, rfl, by decide +kernel, rfl, by decide +kernel, by decide +kernel⟩
theorem sc_BadNumber___init : FnScope ["self", "value"] ["self", "value"] (defScope s_BadNumber___init) := ⟨rfl, rfl, rfl, by decide +kernel, rfl, by decide +kernel, by decide +kernel⟩
/-- what the top leaves -/
structure Tx (K : PySem.W.Frag) (mg : Str → Option Value) : Prop where
  v_LETTERS : ∃ u, mg "LETTERS" = some u ∧ RelV (.str "abcdefghijklmnopqrstuvwxyz") u
  n_len : mg "len" = none
  v_LONGEST : ∃ u, mg "LONGEST" = some u ∧ RelV (.int 8) u
  n_isinstance : mg "isinstance" = none
  n_str : mg "str" = none
  n_all : mg "all" = none
  v_DIGITS : ∃ u, mg "DIGITS" = some u ∧ RelV (.str "0123456789") u
  n_bool : mg "bool" = none
  n_int : mg "int" = none
  g_is_whole : mg "is_whole" = some (.ref (He.ga K "is_whole")) ∧ keepIn K (.ref (He.ga K "is_whole")) = true
  g_is_name : mg "is_name" = some (.ref (He.ga K "is_name")) ∧ keepIn K (.ref (He.ga K "is_name")) = true
  n_list : mg "list" = none
  n_tuple : mg "tuple" = none
  x0_EmptyWalk : excIn K (He.ga K "EmptyWalk") He.veBase "ValueError.__new__" = true ∧ keepIn K (.ref (He.ga K "EmptyWalk")) = true ∧ subIn K (.ref (He.ga K "EmptyWalk")) (.type "BaseException") = some true ∧ typeIn K (.ref (He.ga K "EmptyWalk")) = some (.type "type")
  g_EmptyWalk : mg "EmptyWalk" = some (.ref (He.ga K "EmptyWalk")) ∧ keepIn K (.ref (He.ga K "EmptyWalk")) = true
  g_BadName : mg "BadName" = some (.ref (He.ga K "BadName")) ∧ keepIn K (.ref (He.ga K "BadName")) = true
  g_read_tree : mg "read_tree" = some (.ref (He.ga K "read_tree")) ∧ keepIn K (.ref (He.ga K "read_tree")) = true
  g_crossed : mg "crossed" = some (.ref (He.ga K "crossed")) ∧ keepIn K (.ref (He.ga K "crossed")) = true
  mk_Machine : Mk K (He.ga K "Machine") (He.ma K (He.ga K "Machine") "__init__")
  g_Machine : mg "Machine" = some (.ref (He.ga K "Machine")) ∧ keepIn K (.ref (He.ga K "Machine")) = true
  n_any : mg "any" = none
  cl_Machine : Cls K (He.ga K "Machine")
  me_Machine_is_behind : Meth K (He.ga K "Machine") "is_behind" (He.ma K (He.ga K "Machine") "is_behind")
  me_Machine_takes : Meth K (He.ga K "Machine") "takes" (He.ma K (He.ga K "Machine") "takes")
  n_range : mg "range" = none
  me_Machine_started : Meth K (He.ga K "Machine") "started" (He.ma K (He.ga K "Machine") "started")
  me_Machine_after : Meth K (He.ga K "Machine") "after" (He.ma K (He.ga K "Machine") "after")
  me_Machine_is_done : Meth K (He.ga K "Machine") "is_done" (He.ma K (He.ga K "Machine") "is_done")
  g_all_names : mg "all_names" = some (.ref (He.ga K "all_names")) ∧ keepIn K (.ref (He.ga K "all_names")) = true
  g_accepts : mg "accepts" = some (.ref (He.ga K "accepts")) ∧ keepIn K (.ref (He.ga K "accepts")) = true
  g_made_machine : mg "made_machine" = some (.ref (He.ga K "made_machine")) ∧ keepIn K (.ref (He.ga K "made_machine")) = true
  g_are_names : mg "are_names" = some (.ref (He.ga K "are_names")) ∧ keepIn K (.ref (He.ga K "are_names")) = true
  g_Pattern : mg "Pattern" = some (.ref (He.ga K "Pattern")) ∧ keepIn K (.ref (He.ga K "Pattern")) = true
  mk_Pattern : Mk K (He.ga K "Pattern") (He.ma K (He.ga K "Pattern") "__init__")
  g_joined : mg "joined" = some (.ref (He.ga K "joined")) ∧ keepIn K (.ref (He.ga K "joined")) = true
  g_is_count : mg "is_count" = some (.ref (He.ga K "is_count")) ∧ keepIn K (.ref (He.ga K "is_count")) = true
  g_BadNumber : mg "BadNumber" = some (.ref (He.ga K "BadNumber")) ∧ keepIn K (.ref (He.ga K "BadNumber")) = true
  g_check_lanes : mg "check_lanes" = some (.ref (He.ga K "check_lanes")) ∧ keepIn K (.ref (He.ga K "check_lanes")) = true
  g_word_pattern : mg "word_pattern" = some (.ref (He.ga K "word_pattern")) ∧ keepIn K (.ref (He.ga K "word_pattern")) = true
  g_as_pattern : mg "as_pattern" = some (.ref (He.ga K "as_pattern")) ∧ keepIn K (.ref (He.ga K "as_pattern")) = true
  g_machine_of : mg "machine_of" = some (.ref (He.ga K "machine_of")) ∧ keepIn K (.ref (He.ga K "machine_of")) = true
  g_least_parting : mg "least_parting" = some (.ref (He.ga K "least_parting")) ∧ keepIn K (.ref (He.ga K "least_parting")) = true
  g_law_take : mg "_law_take" = some (.ref (He.ga K "_law_take")) ∧ keepIn K (.ref (He.ga K "_law_take")) = true
  g_law_tree : mg "_law_tree" = some (.ref (He.ga K "_law_tree")) ∧ keepIn K (.ref (He.ga K "_law_tree")) = true
  g_none_of : mg "none_of" = some (.ref (He.ga K "none_of")) ∧ keepIn K (.ref (He.ga K "none_of")) = true
  g_any_of : mg "any_of" = some (.ref (He.ga K "any_of")) ∧ keepIn K (.ref (He.ga K "any_of")) = true
  g_law_atom : mg "_law_atom" = some (.ref (He.ga K "_law_atom")) ∧ keepIn K (.ref (He.ga K "_law_atom")) = true
  g_law_pattern : mg "_law_pattern" = some (.ref (He.ga K "_law_pattern")) ∧ keepIn K (.ref (He.ga K "_law_pattern")) = true
  g_repeated : mg "repeated" = some (.ref (He.ga K "repeated")) ∧ keepIn K (.ref (He.ga K "repeated")) = true
  g_optional : mg "optional" = some (.ref (He.ga K "optional")) ∧ keepIn K (.ref (He.ga K "optional")) = true
  bo_Pattern_BitOr : Bo K (He.ga K "Pattern") .BitOr (He.ma K (He.ga K "Pattern") "__or__")
  bo_Pattern_Add : Bo K (He.ga K "Pattern") .Add (He.ma K (He.ga K "Pattern") "__add__")
  n_enumerate : mg "enumerate" = none
  g_law_takes : mg "_law_takes" = some (.ref (He.ga K "_law_takes")) ∧ keepIn K (.ref (He.ga K "_law_takes")) = true
  g_law_ends_of : mg "_law_ends_of" = some (.ref (He.ga K "_law_ends_of")) ∧ keepIn K (.ref (He.ga K "_law_ends_of")) = true
  g_law_distinct : mg "_law_distinct" = some (.ref (He.ga K "_law_distinct")) ∧ keepIn K (.ref (He.ga K "_law_distinct")) = true
  g_law_is_word : mg "_law_is_word" = some (.ref (He.ga K "_law_is_word")) ∧ keepIn K (.ref (He.ga K "_law_is_word")) = true
  g_law_only : mg "_law_only" = some (.ref (He.ga K "_law_only")) ∧ keepIn K (.ref (He.ga K "_law_only")) = true
  g_within : mg "within" = some (.ref (He.ga K "within")) ∧ keepIn K (.ref (He.ga K "within")) = true
  g_parting : mg "parting" = some (.ref (He.ga K "parting")) ∧ keepIn K (.ref (He.ga K "parting")) = true
  bo_Pattern_Mult : Bo K (He.ga K "Pattern") .Mult (He.ma K (He.ga K "Pattern") "__mul__")
  sm_Pattern_contains : Sm K (He.ga K "Pattern") "__contains__" (He.ma K (He.ga K "Pattern") "__contains__")
  g_law_pool : mg "_law_pool" = some (.ref (He.ga K "_law_pool")) ∧ keepIn K (.ref (He.ga K "_law_pool")) = true
  g_law_cell : mg "_law_cell" = some (.ref (He.ga K "_law_cell")) ∧ keepIn K (.ref (He.ga K "_law_cell")) = true
  g_law_names : mg "_law_names" = some (.ref (He.ga K "_law_names")) ∧ keepIn K (.ref (He.ga K "_law_names")) = true
  g_law_all_words : mg "_law_all_words" = some (.ref (He.ga K "_law_all_words")) ∧ keepIn K (.ref (He.ga K "_law_all_words")) = true
  g_law_second : mg "_law_second" = some (.ref (He.ga K "_law_second")) ∧ keepIn K (.ref (He.ga K "_law_second")) = true
  g_law_right : mg "_law_right" = some (.ref (He.ga K "_law_right")) ∧ keepIn K (.ref (He.ga K "_law_right")) = true
  g_law_far_parted : mg "_law_far_parted" = some (.ref (He.ga K "_law_far_parted")) ∧ keepIn K (.ref (He.ga K "_law_far_parted")) = true
  xc_BadName : Xc K (He.ga K "BadName")
  xi_BadName : findIn K (.ref (He.ga K "BadName")) "__init__" = some (some (.ref (He.ma K (He.ga K "BadName") "__init__"))) ∧ typeIn K (.ref (He.ma K (He.ga K "BadName") "__init__")) = some (.type "function")
  xn_BadName_name : findIn K (.ref (He.ga K "BadName")) "name" = some none
  xc_BadNumber : Xc K (He.ga K "BadNumber")
  xi_BadNumber : findIn K (.ref (He.ga K "BadNumber")) "__init__" = some (some (.ref (He.ma K (He.ga K "BadNumber") "__init__"))) ∧ typeIn K (.ref (He.ma K (He.ga K "BadNumber") "__init__")) = some (.type "function")
  xn_BadNumber_value : findIn K (.ref (He.ga K "BadNumber")) "value" = some none
  g_law : mg "law" = some (.ref (He.ga K "law")) ∧ keepIn K (.ref (He.ga K "law")) = true
  kt_NoneType_str : kitOne K (.type "NoneType") (.type "str") = some false
  kt_bool_str : kitOne K (.type "bool") (.type "str") = some false
  kt_int_str : kitOne K (.type "int") (.type "str") = some false
  kt_list_str : kitOne K (.type "list") (.type "str") = some false
  kt_tuple_str : kitOne K (.type "tuple") (.type "str") = some false
  kt_str_str : kitOne K (.type "str") (.type "str") = some true
  kt_NoneType_int : kitOne K (.type "NoneType") (.type "int") = some false
  kt_str_int : kitOne K (.type "str") (.type "int") = some false
  kt_list_int : kitOne K (.type "list") (.type "int") = some false
  kt_tuple_int : kitOne K (.type "tuple") (.type "int") = some false
  kt_int_int : kitOne K (.type "int") (.type "int") = some true
  kt_int_bool : kitOne K (.type "int") (.type "bool") = some false
  kt_bool_int : kitOne K (.type "bool") (.type "int") = some true
  kt_bool_bool : kitOne K (.type "bool") (.type "bool") = some true
  kt_NoneType_tuple : kitOne K (.type "NoneType") (.type "tuple") = some false
  kt_NoneType_list : kitOne K (.type "NoneType") (.type "list") = some false
  kt_str_tuple : kitOne K (.type "str") (.type "tuple") = some false
  kt_str_list : kitOne K (.type "str") (.type "list") = some false
  kt_int_tuple : kitOne K (.type "int") (.type "tuple") = some false
  kt_int_list : kitOne K (.type "int") (.type "list") = some false
  kt_dict_tuple : kitOne K (.type "dict") (.type "tuple") = some false
  kt_dict_list : kitOne K (.type "dict") (.type "list") = some false
  kt_tuple_tuple : kitOne K (.type "tuple") (.type "tuple") = some true
  kt_tuple_list : kitOne K (.type "tuple") (.type "list") = some false
  kt_list_tuple : kitOne K (.type "list") (.type "tuple") = some false
  kt_list_list : kitOne K (.type "list") (.type "list") = some true
  na_Machine_atoms : NoAttr K (He.ga K "Machine") "atoms"
  na_Machine_firsts : NoAttr K (He.ga K "Machine") "firsts"
  na_Machine_lasts : NoAttr K (He.ga K "Machine") "lasts"
  na_Machine_pairs : NoAttr K (He.ga K "Machine") "pairs"
  na_Machine_is_optional : NoAttr K (He.ga K "Machine") "is_optional"
  np_0 : NoP K
  cl_Pattern : Cls K (He.ga K "Pattern")
  na_Pattern_tree : NoAttr K (He.ga K "Pattern") "tree"
  ci_Pattern : ClsI K (He.ga K "Pattern")
  ko_Pattern_Pattern : kitOne K (.ref (He.ga K "Pattern")) (.ref (He.ga K "Pattern")) = some true
  kc_list_Pattern : kitOne K (.type "list") (.ref (He.ga K "Pattern")) = some false
  kc_tuple_Pattern : kitOne K (.type "tuple") (.ref (He.ga K "Pattern")) = some false
  bt_Pattern_Mult_int : BoT K (He.ga K "Pattern") .Mult "int"
  d_is_name : ∃ fd, FunD K "is_name" "is_name" (defArgs s_is_name) (defBody s_is_name) (defScope s_is_name) [] [] (He.ga K "is_name") fd
  d_is_whole : ∃ fd, FunD K "is_whole" "is_whole" (defArgs s_is_whole) (defBody s_is_whole) (defScope s_is_whole) [] [] (He.ga K "is_whole") fd
  d_is_count : ∃ fd, FunD K "is_count" "is_count" (defArgs s_is_count) (defBody s_is_count) (defScope s_is_count) [] [] (He.ga K "is_count") fd
  d_are_names : ∃ fd, FunD K "are_names" "are_names" (defArgs s_are_names) (defBody s_are_names) (defScope s_are_names) [] [] (He.ga K "are_names") fd
  d_check_lanes : ∃ fd, FunD K "check_lanes" "check_lanes" (defArgs s_check_lanes) (defBody s_check_lanes) (defScope s_check_lanes) [] [] (He.ga K "check_lanes") fd
  d_crossed : ∃ fd, FunD K "crossed" "crossed" (defArgs s_crossed) (defBody s_crossed) (defScope s_crossed) [] [] (He.ga K "crossed") fd
  d_read_tree : ∃ fd, FunD K "read_tree" "read_tree" (defArgs s_read_tree) (defBody s_read_tree) (defScope s_read_tree) [] [] (He.ga K "read_tree") fd
  d_Machine___init : ∃ fd, FunD K "__init__" "Machine.__init__" (defArgs s_Machine___init) (defBody s_Machine___init) (defScope s_Machine___init) [] [] (He.ma K (He.ga K "Machine") "__init__") fd
  d_made_machine : ∃ fd, FunD K "made_machine" "made_machine" (defArgs s_made_machine) (defBody s_made_machine) (defScope s_made_machine) [] [] (He.ga K "made_machine") fd
  d_Machine_takes : ∃ fd, FunD K "takes" "Machine.takes" (defArgs s_Machine_takes) (defBody s_Machine_takes) (defScope s_Machine_takes) [] [] (He.ma K (He.ga K "Machine") "takes") fd
  d_Machine_is_behind : ∃ fd, FunD K "is_behind" "Machine.is_behind" (defArgs s_Machine_is_behind) (defBody s_Machine_is_behind) (defScope s_Machine_is_behind) [] [] (He.ma K (He.ga K "Machine") "is_behind") fd
  d_Machine_after : ∃ fd, FunD K "after" "Machine.after" (defArgs s_Machine_after) (defBody s_Machine_after) (defScope s_Machine_after) [] [] (He.ma K (He.ga K "Machine") "after") fd
  d_Machine_started : ∃ fd, FunD K "started" "Machine.started" (defArgs s_Machine_started) (defBody s_Machine_started) (defScope s_Machine_started) [] [] (He.ma K (He.ga K "Machine") "started") fd
  d_Machine_is_done : ∃ fd, FunD K "is_done" "Machine.is_done" (defArgs s_Machine_is_done) (defBody s_Machine_is_done) (defScope s_Machine_is_done) [] [] (He.ma K (He.ga K "Machine") "is_done") fd
  d_accepts : ∃ fd, FunD K "accepts" "accepts" (defArgs s_accepts) (defBody s_accepts) (defScope s_accepts) [] [] (He.ga K "accepts") fd
  d_all_names : ∃ fd, FunD K "all_names" "all_names" (defArgs s_all_names) (defBody s_all_names) (defScope s_all_names) [] [] (He.ga K "all_names") fd
  d_least_parting : ∃ fd, FunD K "least_parting" "least_parting" (defArgs s_least_parting) (defBody s_least_parting) (defScope s_least_parting) [] [] (He.ga K "least_parting") fd
  d_joined : ∃ fd, FunD K "joined" "joined" (defArgs s_joined) (defBody s_joined) (defScope s_joined) [] [] (He.ga K "joined") fd
  d_Pattern___init : ∃ fd, FunD K "__init__" "Pattern.__init__" (defArgs s_Pattern___init) (defBody s_Pattern___init) (defScope s_Pattern___init) [] [] (He.ma K (He.ga K "Pattern") "__init__") fd
  d_Pattern___contains : ∃ fd, FunD K "__contains__" "Pattern.__contains__" (defArgs s_Pattern___contains) (defBody s_Pattern___contains) (defScope s_Pattern___contains) [] [] (He.ma K (He.ga K "Pattern") "__contains__") fd
  d_Pattern___add : ∃ fd, FunD K "__add__" "Pattern.__add__" (defArgs s_Pattern___add) (defBody s_Pattern___add) (defScope s_Pattern___add) [] [] (He.ma K (He.ga K "Pattern") "__add__") fd
  d_Pattern___or : ∃ fd, FunD K "__or__" "Pattern.__or__" (defArgs s_Pattern___or) (defBody s_Pattern___or) (defScope s_Pattern___or) [] [] (He.ma K (He.ga K "Pattern") "__or__") fd
  d_Pattern___mul : ∃ fd, FunD K "__mul__" "Pattern.__mul__" (defArgs s_Pattern___mul) (defBody s_Pattern___mul) (defScope s_Pattern___mul) [] [] (He.ma K (He.ga K "Pattern") "__mul__") fd
  d_any_of : ∃ fd, FunD K "any_of" "any_of" (defArgs s_any_of) (defBody s_any_of) (defScope s_any_of) [] [] (He.ga K "any_of") fd
  d_none_of : ∃ fd, FunD K "none_of" "none_of" (defArgs s_none_of) (defBody s_none_of) (defScope s_none_of) [] [] (He.ga K "none_of") fd
  d_repeated : ∃ fd, FunD K "repeated" "repeated" (defArgs s_repeated) (defBody s_repeated) (defScope s_repeated) [] [] (He.ga K "repeated") fd
  d_optional : ∃ fd, FunD K "optional" "optional" (defArgs s_optional) (defBody s_optional) (defScope s_optional) [] [] (He.ga K "optional") fd
  d_word_pattern : ∃ fd, FunD K "word_pattern" "word_pattern" (defArgs s_word_pattern) (defBody s_word_pattern) (defScope s_word_pattern) [] [] (He.ga K "word_pattern") fd
  d_as_pattern : ∃ fd, FunD K "as_pattern" "as_pattern" (defArgs s_as_pattern) (defBody s_as_pattern) (defScope s_as_pattern) [] [] (He.ga K "as_pattern") fd
  d_machine_of : ∃ fd, FunD K "machine_of" "machine_of" (defArgs s_machine_of) (defBody s_machine_of) (defScope s_machine_of) [] [] (He.ga K "machine_of") fd
  d_within : ∃ fd, FunD K "within" "within" (defArgs s_within) (defBody s_within) (defScope s_within) [] [] (He.ga K "within") fd
  d_parting : ∃ fd, FunD K "parting" "parting" (defArgs s_parting) (defBody s_parting) (defScope s_parting) [] [] (He.ga K "parting") fd
  d_law_cell : ∃ fd, FunD K "_law_cell" "_law_cell" (defArgs s_law_cell) (defBody s_law_cell) (defScope s_law_cell) [] [] (He.ga K "_law_cell") fd
  d_law_pool : ∃ fd, FunD K "_law_pool" "_law_pool" (defArgs s_law_pool) (defBody s_law_pool) (defScope s_law_pool) [] [] (He.ga K "_law_pool") fd
  d_law_take : ∃ fd, FunD K "_law_take" "_law_take" (defArgs s_law_take) (defBody s_law_take) (defScope s_law_take) [] [] (He.ga K "_law_take") fd
  d_law_names : ∃ fd, FunD K "_law_names" "_law_names" (defArgs s_law_names) (defBody s_law_names) (defScope s_law_names) [] [] (He.ga K "_law_names") fd
  d_law_tree : ∃ fd, FunD K "_law_tree" "_law_tree" (defArgs s_law_tree) (defBody s_law_tree) (defScope s_law_tree) [] [] (He.ga K "_law_tree") fd
  d_law_atom : ∃ fd, FunD K "_law_atom" "_law_atom" (defArgs s_law_atom) (defBody s_law_atom) (defScope s_law_atom) [] [] (He.ga K "_law_atom") fd
  d_law_pattern : ∃ fd, FunD K "_law_pattern" "_law_pattern" (defArgs s_law_pattern) (defBody s_law_pattern) (defScope s_law_pattern) [] [] (He.ga K "_law_pattern") fd
  d_law_takes : ∃ fd, FunD K "_law_takes" "_law_takes" (defArgs s_law_takes) (defBody s_law_takes) (defScope s_law_takes) [] [] (He.ga K "_law_takes") fd
  d_law_distinct : ∃ fd, FunD K "_law_distinct" "_law_distinct" (defArgs s_law_distinct) (defBody s_law_distinct) (defScope s_law_distinct) [] [] (He.ga K "_law_distinct") fd
  d_law_ends_of : ∃ fd, FunD K "_law_ends_of" "_law_ends_of" (defArgs s_law_ends_of) (defBody s_law_ends_of) (defScope s_law_ends_of) [] [] (He.ga K "_law_ends_of") fd
  d_law_is_word : ∃ fd, FunD K "_law_is_word" "_law_is_word" (defArgs s_law_is_word) (defBody s_law_is_word) (defScope s_law_is_word) [] [] (He.ga K "_law_is_word") fd
  d_law_all_words : ∃ fd, FunD K "_law_all_words" "_law_all_words" (defArgs s_law_all_words) (defBody s_law_all_words) (defScope s_law_all_words) [] [] (He.ga K "_law_all_words") fd
  d_law_second : ∃ fd, FunD K "_law_second" "_law_second" (defArgs s_law_second) (defBody s_law_second) (defScope s_law_second) [] [] (He.ga K "_law_second") fd
  d_law_only : ∃ fd, FunD K "_law_only" "_law_only" (defArgs s_law_only) (defBody s_law_only) (defScope s_law_only) [] [] (He.ga K "_law_only") fd
  d_law_right : ∃ fd, FunD K "_law_right" "_law_right" (defArgs s_law_right) (defBody s_law_right) (defScope s_law_right) [] [] (He.ga K "_law_right") fd
  d_law_far_parted : ∃ fd, FunD K "_law_far_parted" "_law_far_parted" (defArgs s_law_far_parted) (defBody s_law_far_parted) (defScope s_law_far_parted) [] [] (He.ga K "_law_far_parted") fd
  d_law : ∃ fd, FunD K "law" "law" (defArgs s_law) (defBody s_law) (defScope s_law) [] [] (He.ga K "law") fd
  d_BadName___init : ∃ fd, FunD K "__init__" "BadName.__init__" (defArgs s_BadName___init) (defBody s_BadName___init) (defScope s_BadName___init) [] [] (He.ma K (He.ga K "BadName") "__init__") fd
  d_BadNumber___init : ∃ fd, FunD K "__init__" "BadNumber.__init__" (defArgs s_BadNumber___init) (defBody s_BadNumber___init) (defScope s_BadNumber___init) [] [] (He.ma K (He.ga K "BadNumber") "__init__") fd
def exs0 : List Fx := [fStr "LETTERS" "abcdefghijklmnopqrstuvwxyz", fFree "len", fInt "LONGEST" 8, fFree "isinstance", fFree "str", fFree "all", fStr "DIGITS" "0123456789", fFree "bool", fFree "int", fGlo "is_whole", fGlo "is_name", fFree "list", fFree "tuple", fX0 "EmptyWalk", fGlo "EmptyWalk", fGlo "BadName", fGlo "read_tree", fGlo "crossed", fMkr "Machine", fGlo "Machine", fFree "any", fCls "Machine", fMeth "Machine" "is_behind", fMeth "Machine" "takes", fFree "range", fMeth "Machine" "started", fMeth "Machine" "after", fMeth "Machine" "is_done", fGlo "all_names", fGlo "accepts"]
def exs1 : List Fx := [fGlo "made_machine", fGlo "are_names", fGlo "Pattern", fMkr "Pattern", fGlo "joined", fGlo "is_count", fGlo "BadNumber", fGlo "check_lanes", fGlo "word_pattern", fGlo "as_pattern", fGlo "machine_of", fGlo "least_parting", fGlo "_law_take", fGlo "_law_tree", fGlo "none_of", fGlo "any_of", fGlo "_law_atom", fGlo "_law_pattern", fGlo "repeated", fGlo "optional", fBo "Pattern" .BitOr, fBo "Pattern" .Add, fFree "enumerate", fGlo "_law_takes", fGlo "_law_ends_of", fGlo "_law_distinct", fGlo "_law_is_word", fGlo "_law_only", fGlo "within", fGlo "parting"]
def exs2 : List Fx := [fBo "Pattern" .Mult, fSm "Pattern" "__contains__", fGlo "_law_pool", fGlo "_law_cell", fGlo "_law_names", fGlo "_law_all_words", fGlo "_law_second", fGlo "_law_right", fGlo "_law_far_parted", fXc "BadName", fXi "BadName", fNoat "BadName" "name", fXc "BadNumber", fXi "BadNumber", fNoat "BadNumber" "value", fGlo "law", fKit "NoneType" "str" false, fKit "bool" "str" false, fKit "int" "str" false, fKit "list" "str" false, fKit "tuple" "str" false, fKit "str" "str" true, fKit "NoneType" "int" false, fKit "str" "int" false, fKit "list" "int" false, fKit "tuple" "int" false, fKit "int" "int" true, fKit "int" "bool" false, fKit "bool" "int" true, fKit "bool" "bool" true]
def exs3 : List Fx := [fKit "NoneType" "tuple" false, fKit "NoneType" "list" false, fKit "str" "tuple" false, fKit "str" "list" false, fKit "int" "tuple" false, fKit "int" "list" false, fKit "dict" "tuple" false, fKit "dict" "list" false, fKit "tuple" "tuple" true, fKit "tuple" "list" false, fKit "list" "tuple" false, fKit "list" "list" true, fNoat "Machine" "atoms", fNoat "Machine" "firsts", fNoat "Machine" "lasts", fNoat "Machine" "pairs", fNoat "Machine" "is_optional", fNoP, fCls "Pattern", fNoat "Pattern" "tree", fClsI "Pattern", fKitO "Pattern" "Pattern" true, fKitC "list" "Pattern" false, fKitC "tuple" "Pattern" false, fBoT "Pattern" .Mult "int"]
abbrev exs : List Fx := exs0 ++ exs1 ++ exs2 ++ exs3
def dfs0 : List Df := [⟨fun K => (He.ga K "is_name"), "is_name", "is_name", defArgs s_is_name, defBody s_is_name, defScope s_is_name, fun K => []⟩, ⟨fun K => (He.ga K "is_whole"), "is_whole", "is_whole", defArgs s_is_whole, defBody s_is_whole, defScope s_is_whole, fun K => []⟩, ⟨fun K => (He.ga K "is_count"), "is_count", "is_count", defArgs s_is_count, defBody s_is_count, defScope s_is_count, fun K => []⟩, ⟨fun K => (He.ga K "are_names"), "are_names", "are_names", defArgs s_are_names, defBody s_are_names, defScope s_are_names, fun K => []⟩, ⟨fun K => (He.ga K "check_lanes"), "check_lanes", "check_lanes", defArgs s_check_lanes, defBody s_check_lanes, defScope s_check_lanes, fun K => []⟩, ⟨fun K => (He.ga K "crossed"), "crossed", "crossed", defArgs s_crossed, defBody s_crossed, defScope s_crossed, fun K => []⟩, ⟨fun K => (He.ga K "read_tree"), "read_tree", "read_tree", defArgs s_read_tree, defBody s_read_tree, defScope s_read_tree, fun K => []⟩, ⟨fun K => (He.ma K (He.ga K "Machine") "__init__"), "__init__", "Machine.__init__", defArgs s_Machine___init, defBody s_Machine___init, defScope s_Machine___init, fun K => []⟩, ⟨fun K => (He.ga K "made_machine"), "made_machine", "made_machine", defArgs s_made_machine, defBody s_made_machine, defScope s_made_machine, fun K => []⟩, ⟨fun K => (He.ma K (He.ga K "Machine") "takes"), "takes", "Machine.takes", defArgs s_Machine_takes, defBody s_Machine_takes, defScope s_Machine_takes, fun K => []⟩, ⟨fun K => (He.ma K (He.ga K "Machine") "is_behind"), "is_behind", "Machine.is_behind", defArgs s_Machine_is_behind, defBody s_Machine_is_behind, defScope s_Machine_is_behind, fun K => []⟩, ⟨fun K => (He.ma K (He.ga K "Machine") "after"), "after", "Machine.after", defArgs s_Machine_after, defBody s_Machine_after, defScope s_Machine_after, fun K => []⟩, ⟨fun K => (He.ma K (He.ga K "Machine") "started"), "started", "Machine.started", defArgs s_Machine_started, defBody s_Machine_started, defScope s_Machine_started, fun K => []⟩, ⟨fun K => (He.ma K (He.ga K "Machine") "is_done"), "is_done", "Machine.is_done", defArgs s_Machine_is_done, defBody s_Machine_is_done, defScope s_Machine_is_done, fun K => []⟩, ⟨fun K => (He.ga K "accepts"), "accepts", "accepts", defArgs s_accepts, defBody s_accepts, defScope s_accepts, fun K => []⟩, ⟨fun K => (He.ga K "all_names"), "all_names", "all_names", defArgs s_all_names, defBody s_all_names, defScope s_all_names, fun K => []⟩, ⟨fun K => (He.ga K "least_parting"), "least_parting", "least_parting", defArgs s_least_parting, defBody s_least_parting, defScope s_least_parting, fun K => []⟩, ⟨fun K => (He.ga K "joined"), "joined", "joined", defArgs s_joined, defBody s_joined, defScope s_joined, fun K => []⟩, ⟨fun K => (He.ma K (He.ga K "Pattern") "__init__"), "__init__", "Pattern.__init__", defArgs s_Pattern___init, defBody s_Pattern___init, defScope s_Pattern___init, fun K => []⟩, ⟨fun K => (He.ma K (He.ga K "Pattern") "__contains__"), "__contains__", "Pattern.__contains__", defArgs s_Pattern___contains, defBody s_Pattern___contains, defScope s_Pattern___contains, fun K => []⟩, ⟨fun K => (He.ma K (He.ga K "Pattern") "__add__"), "__add__", "Pattern.__add__", defArgs s_Pattern___add, defBody s_Pattern___add, defScope s_Pattern___add, fun K => []⟩, ⟨fun K => (He.ma K (He.ga K "Pattern") "__or__"), "__or__", "Pattern.__or__", defArgs s_Pattern___or, defBody s_Pattern___or, defScope s_Pattern___or, fun K => []⟩, ⟨fun K => (He.ma K (He.ga K "Pattern") "__mul__"), "__mul__", "Pattern.__mul__", defArgs s_Pattern___mul, defBody s_Pattern___mul, defScope s_Pattern___mul, fun K => []⟩, ⟨fun K => (He.ga K "any_of"), "any_of", "any_of", defArgs s_any_of, defBody s_any_of, defScope s_any_of, fun K => []⟩, ⟨fun K => (He.ga K "none_of"), "none_of", "none_of", defArgs s_none_of, defBody s_none_of, defScope s_none_of, fun K => []⟩, ⟨fun K => (He.ga K "repeated"), "repeated", "repeated", defArgs s_repeated, defBody s_repeated, defScope s_repeated, fun K => []⟩, ⟨fun K => (He.ga K "optional"), "optional", "optional", defArgs s_optional, defBody s_optional, defScope s_optional, fun K => []⟩, ⟨fun K => (He.ga K "word_pattern"), "word_pattern", "word_pattern", defArgs s_word_pattern, defBody s_word_pattern, defScope s_word_pattern, fun K => []⟩, ⟨fun K => (He.ga K "as_pattern"), "as_pattern", "as_pattern", defArgs s_as_pattern, defBody s_as_pattern, defScope s_as_pattern, fun K => []⟩, ⟨fun K => (He.ga K "machine_of"), "machine_of", "machine_of", defArgs s_machine_of, defBody s_machine_of, defScope s_machine_of, fun K => []⟩]
def dfs1 : List Df := [⟨fun K => (He.ga K "within"), "within", "within", defArgs s_within, defBody s_within, defScope s_within, fun K => []⟩, ⟨fun K => (He.ga K "parting"), "parting", "parting", defArgs s_parting, defBody s_parting, defScope s_parting, fun K => []⟩, ⟨fun K => (He.ga K "_law_cell"), "_law_cell", "_law_cell", defArgs s_law_cell, defBody s_law_cell, defScope s_law_cell, fun K => []⟩, ⟨fun K => (He.ga K "_law_pool"), "_law_pool", "_law_pool", defArgs s_law_pool, defBody s_law_pool, defScope s_law_pool, fun K => []⟩, ⟨fun K => (He.ga K "_law_take"), "_law_take", "_law_take", defArgs s_law_take, defBody s_law_take, defScope s_law_take, fun K => []⟩, ⟨fun K => (He.ga K "_law_names"), "_law_names", "_law_names", defArgs s_law_names, defBody s_law_names, defScope s_law_names, fun K => []⟩, ⟨fun K => (He.ga K "_law_tree"), "_law_tree", "_law_tree", defArgs s_law_tree, defBody s_law_tree, defScope s_law_tree, fun K => []⟩, ⟨fun K => (He.ga K "_law_atom"), "_law_atom", "_law_atom", defArgs s_law_atom, defBody s_law_atom, defScope s_law_atom, fun K => []⟩, ⟨fun K => (He.ga K "_law_pattern"), "_law_pattern", "_law_pattern", defArgs s_law_pattern, defBody s_law_pattern, defScope s_law_pattern, fun K => []⟩, ⟨fun K => (He.ga K "_law_takes"), "_law_takes", "_law_takes", defArgs s_law_takes, defBody s_law_takes, defScope s_law_takes, fun K => []⟩, ⟨fun K => (He.ga K "_law_distinct"), "_law_distinct", "_law_distinct", defArgs s_law_distinct, defBody s_law_distinct, defScope s_law_distinct, fun K => []⟩, ⟨fun K => (He.ga K "_law_ends_of"), "_law_ends_of", "_law_ends_of", defArgs s_law_ends_of, defBody s_law_ends_of, defScope s_law_ends_of, fun K => []⟩, ⟨fun K => (He.ga K "_law_is_word"), "_law_is_word", "_law_is_word", defArgs s_law_is_word, defBody s_law_is_word, defScope s_law_is_word, fun K => []⟩, ⟨fun K => (He.ga K "_law_all_words"), "_law_all_words", "_law_all_words", defArgs s_law_all_words, defBody s_law_all_words, defScope s_law_all_words, fun K => []⟩, ⟨fun K => (He.ga K "_law_second"), "_law_second", "_law_second", defArgs s_law_second, defBody s_law_second, defScope s_law_second, fun K => []⟩, ⟨fun K => (He.ga K "_law_only"), "_law_only", "_law_only", defArgs s_law_only, defBody s_law_only, defScope s_law_only, fun K => []⟩, ⟨fun K => (He.ga K "_law_right"), "_law_right", "_law_right", defArgs s_law_right, defBody s_law_right, defScope s_law_right, fun K => []⟩, ⟨fun K => (He.ga K "_law_far_parted"), "_law_far_parted", "_law_far_parted", defArgs s_law_far_parted, defBody s_law_far_parted, defScope s_law_far_parted, fun K => []⟩, ⟨fun K => (He.ga K "law"), "law", "law", defArgs s_law, defBody s_law, defScope s_law, fun K => []⟩, ⟨fun K => (He.ma K (He.ga K "BadName") "__init__"), "__init__", "BadName.__init__", defArgs s_BadName___init, defBody s_BadName___init, defScope s_BadName___init, fun K => []⟩, ⟨fun K => (He.ma K (He.ga K "BadNumber") "__init__"), "__init__", "BadNumber.__init__", defArgs s_BadNumber___init, defBody s_BadNumber___init, defScope s_BadNumber___init, fun K => []⟩]
abbrev dfs : List Df := dfs0 ++ dfs1
def names0 : List Str := ["_wall", "ShowError", "BadName", "EmptyWalk", "BadText", "BadNumber", "Machine", "made_machine", "read_tree", "crossed", "accepts", "all_names", "least_parting", "LETTERS", "DIGITS", "LONGEST", "is_name", "is_whole", "is_count", "are_names", "ENDS", "sign_at", "read_pattern", "behind_row", "read_row", "read_item", "read_name", "read_names", "read_group", "expect"]
def names1 : List Str := ["in_order", "check_lanes", "joined", "opposite", "tree_names", "text_of", "atom_text", "Pattern", "any_of", "none_of", "word_pattern", "repeated", "optional", "as_pattern", "machine_of", "within", "parting", "_law_cell", "_law_pool", "_law_take", "_law_names", "_law_tree", "_law_atom", "_law_pattern", "_law_ends_of", "_law_takes", "_law_distinct", "_law_is_word", "_law_all_words", "_law_second"]
def names2 : List Str := ["_law_only", "_law_right", "_law_far_parted"]
abbrev names : List Str := names0 ++ names1 ++ names2
abbrev R : PySem.W.OpenRow := PySem.W.OpenLaw.row PySem.Challenge.rw_alsoshown_k14_patterns_compared
abbrev qv : Program := view R.prog [71]
def rts0 : List Str := ["is_name", "is_whole", "is_count", "are_names", "check_lanes", "crossed", "read_tree", "Machine", "made_machine", "accepts", "all_names", "least_parting", "joined", "Pattern", "any_of", "none_of", "repeated", "optional", "word_pattern", "as_pattern", "machine_of", "within", "parting", "_law_cell", "_law_pool", "_law_take", "_law_names", "_law_tree", "_law_atom", "_law_pattern"]
def rts1 : List Str := ["_law_takes", "_law_distinct", "_law_ends_of", "_law_is_word", "_law_all_words", "_law_second", "_law_only", "_law_right", "_law_far_parted", "law", "BadName", "BadNumber", "LETTERS", "LONGEST", "DIGITS", "EmptyWalk"]
abbrev rts : List Str := rts0 ++ rts1
abbrev hk : PySem.W.Hook := hookZ 5 rts exs dfs
def ob (s : PySem.W.SharedT) : AlY := obsZG 5 rts exs dfs (HandSHeadRun.getT s)
theorem ob_eq (s : PySem.W.SharedT) : ob s = hk.obs s.abs := obsZG_eq (HandSHeadRun.getT_eq s)
theorem run0 (w : World) : HandSHeadRun.RunEq R qv hk ob 14000 names (w.withFollow "special-get-raises" false) := by
  intro os
  kernel_rfl
theorem run1 (w : World) : HandSHeadRun.RunEq R qv hk ob 14000 names (w.withFollow "special-get-raises" true) := by
  intro os
  kernel_rfl
theorem run (w : World) : HandSHeadRun.RunEq R qv hk ob 14000 names w := PySem.W.byRow2 "special-get-raises" (P := fun w => HandSHeadRun.RunEq R qv hk ob 14000 names w) run0 run1 w
end K14

/-! DL1: contracts by number of arguments, bundles for the printed derivations (own work). -/
namespace DL
open PySem L2 PySem.W
abbrev Oc := Out → Cells → Prop
def Ct1 (R : W → Cells → Oc → Prop) : Ct := fun ws ka out => ∃ a, ws = [a] ∧ R a ka out
def Ct2 (R : W → W → Cells → Oc → Prop) : Ct := fun ws ka out => ∃ a b, ws = [a, b] ∧ R a b ka out
def Ct3 (R : W → W → W → Cells → Oc → Prop) : Ct := fun ws ka out => ∃ a b c, ws = [a, b, c] ∧ R a b c ka out
def Ct4 (R : W → W → W → W → Cells → Oc → Prop) : Ct := fun ws ka out => ∃ a b c d, ws = [a, b, c, d] ∧ R a b c d ka out
theorem ct1_len {R} : ∀ ws ka out, Ct1 R ws ka out → ws.length = 1 := fun _ _ _ ⟨_, h, _⟩ => by rw [h]; rfl
theorem ct2_len {R} : ∀ ws ka out, Ct2 R ws ka out → ws.length = 2 := fun _ _ _ ⟨_, _, h, _⟩ => by rw [h]; rfl
theorem ct3_len {R} : ∀ ws ka out, Ct3 R ws ka out → ws.length = 3 := fun _ _ _ ⟨_, _, _, h, _⟩ => by rw [h]; rfl
theorem ct4_len {R} : ∀ ws ka out, Ct4 R ws ka out → ws.length = 4 := fun _ _ _ ⟨_, _, _, _, h, _⟩ => by rw [h]; rfl
/-- how a call ends: it comes back with d, the cells k; it raises -/
def Rt (d : D) (k : Cells) : Oc := fun o k' => o = .ret d ∧ k' = k
def Xt (C : Addr) (fs : List (Str × D)) (k : Cells) : Oc := fun o k' => o = .exc C fs ∧ k' = k
def X0 (C : Addr) (k : Cells) : Oc := fun o k' => o = .exc0 C ∧ k' = k
def Nt (n : Nd) (k : Cells) : Oc := fun o k' => ∃ a, o = .ret (.adr a) ∧ k' = k ++ [(a, n)]
section
variable {X : Cx} {k : Nat} {f C : Addr} {ps : List Str} {E : XK} {Ct' : Ct} {x m : Str} {p pos apos : Pos} {e o : Expr} {es : List Expr} {ta te to ti : TE} {t : TA}
/-- an own error with one field -/
structure Xn (P : Program) (w : World) (K : PySem.W.Frag) (mg : Str → Option Value) (base : Heap) (C : Addr) (fld : Str) : Prop where
  xc : Xc K C
  no : findIn K (.ref C) fld = some none
  ex : ∃ fI fd x, findIn K (.ref C) "__init__" = some (some (.ref fI)) ∧ typeIn K (.ref fI) = some (.type "function") ∧ FnOk P w K mg base (L2.CX P w) 1 fI fd ["self", x] (spI1 K C fld) ∧ Binds K fd ["self", x] []
namespace Xn
variable {P : Program} {w : World} {K : PySem.W.Frag} {mg : Str → Option Value} {base : Heap} {C : Addr} {fld : Str}
noncomputable def fI (Z : Xn P w K mg base C fld) : Addr := Classical.choose Z.ex
noncomputable def fd (Z : Xn P w K mg base C fld) : FuncData := Classical.choose (Classical.choose_spec Z.ex)
noncomputable def px (Z : Xn P w K mg base C fld) : Str := Classical.choose (Classical.choose_spec (Classical.choose_spec Z.ex))
theorem all (Z : Xn P w K mg base C fld) : findIn K (.ref C) "__init__" = some (some (.ref Z.fI)) ∧ typeIn K (.ref Z.fI) = some (.type "function") ∧ FnOk P w K mg base (L2.CX P w) 1 Z.fI Z.fd ["self", Z.px] (spI1 K C fld) ∧ Binds K Z.fd ["self", Z.px] [] :=
  Classical.choose_spec (Classical.choose_spec (Classical.choose_spec Z.ex))
end Xn
theorem op_ow {op : Operator} (o : Bo X.K C op f) (F : Fn X.prog X.w X.K X.mg X.base k f ps Ct') (hr : Room k X.A) (hx : Passes (L2.CX X.prog X.w) X E) : OpR X (binaryOp op) (rOwnT2 X.K C op (spC X.K Ct') E) := by
  obtain ⟨fd, F, b⟩ := F
  exact opr_T (op_own o F hr b hx)
end
end DL
namespace DL
open PySem L2 PySem.W
/-- a constant of the module -/
theorem pe_gv {X : Cx} {x : Str} {pos : Pos} {v : V} (hg : Gl X x) (h : ∃ u, X.mg x = some u ∧ RelV v u) (hd : (x == ("__debug__" : Str)) = false := by decide) : PE X (.Name x pos) (tC v) := let ⟨_, hm, r⟩ := h; pe_glob hg hm r hd
/-- what BlkOk asks, as one thing to be decided -/
def blkB (N : List Str) (sc scope : Scope) (own : List (Str × Nat)) : Bool :=
  decide (scope.kind = .function ∧ (∀ p ∈ own, N[p.2]? = some p.1) ∧ ∀ y ∈ scope.names, scope.names.lookup y.1 = some y.2 ∧ (y.2 = .free → sc.names.lookup y.1 = some .cell ∨ sc.names.lookup y.1 = some .free) ∧ (y.2 = .local ∨ y.2 = .cell → y.1 ∈ own.map (·.1) ∨ y.1 ∉ N))
theorem blk_ok {N : List Str} {sc scope : Scope} {own : List (Str × Nat)} (N' : List Str) (sc' : Scope) (eN : N = N') (eS : sc = sc') (h : blkB N' sc' scope own = true) : BlkOk N sc scope own :=
  let ⟨fn, at_, each⟩ := of_decide_eq_true h
  eN ▸ eS ▸ { kind := fn, uniq := fun y m => (each y m).1, ix := at_, free := fun y m => (each y m).2.1, own := fun y m => (each y m).2.2 }
end DL

/-! DM: shorter words (own work). -/
namespace DL
open PySem L2 PySem.W
section
variable {K : PySem.W.Frag} {B F F0 : Hp} {ro : Ro} {ka k1 k2 k3 kr : Cells} {ta : List (V × W)} {sg : L2.St} {H H' : Hp} {te tf tg : TE} {tr : TA} {tt tu : TT} {w x y z : W} {n m : Nd} {C dx a : Addr} {fs : List (Str × D)} {b : Bool} {P : L2.St → Hp → Prop} {De : Ends} {t u : TS} {E : XK}
theorem ea1 (h : EvD K te ro ka x k1) : EvA K (tCons te tNil) ro ka [x] k1 := ea_cons h ea_nil
theorem ea2 (h : EvD K te ro ka x k1) (h2 : EvD K tf ro k1 y k2) : EvA K (tCons te (tCons tf tNil)) ro ka [x, y] k2 := ea_cons h (ea1 h2)
theorem ea3 (h : EvD K te ro ka x k1) (h2 : EvD K tf ro k1 y k2) (h3 : EvD K tg ro k2 z k3) : EvA K (tCons te (tCons tf (tCons tg tNil))) ro ka [x, y, z] k3 := ea_cons h (ea2 h2 h3)
theorem EvA.to {ws ws' : List W} (h : EvA K tr ro ka ws k1) (e : ws = ws') : EvA K tr ro ka ws' k1 := e ▸ h
/-- the built-in type of data -/
def tyD : D → Option String
  | .non => some "NoneType" | .bl _ => some "bool" | .int _ => some "int" | .str _ => some "str" | .lst _ => some "list" | .tup _ => some "tuple"
  | _ => none
theorem tw_of {d : D} {T : String} (h : tyD d = some T) : Tw K ka (.val d) (.type T) := by
  cases d <;> cases h
  · exact .non
  · exact .bl
  · exact .int
  · exact .str
  · exact .tup .vt
  · exact .lst .vl
theorem ev_isi {T : String} {t : Value} (h : EvD K te ro ka w k1) (l : Tw K k1 w t) (e : kitOne K t (.type T) = some b) : EvD K (tCB (rIsi K) (tCons te (tCons (tC (.ty T)) tNil))) ro ka (.val (.bl b)) k1 := ev_cb (ea2 h ev_ty) (rc_isi l e)
theorem ev_isiC {C1 : Addr} {t : Value} (h : EvD K te ro ka w k1) (l : Tw K k1 w t) (e : kitOne K t (.ref C1) = some b) : EvD K (tCB (rIsi K) (tCons te (tCons (tC (.ref C1)) tNil))) ro ka (.val (.bl b)) k1 := ev_cb (ea2 h ev_ref) (rc_isiC l e)
theorem ev_len {t b : Bool} {ds : List D} (h : EvD K te ro ka w k1) (l : Lk k1 w t ds b) : EvD K (tCB (rLenU K) (tCons te tNil)) ro ka (.val (.int ds.length)) k1 := ev_cb (ea1 h) (rc_len l)
theorem ev_lenS {s : Str} (h : EvD K te ro ka (.val (.str s)) k1) (hs : s.length ≤ 100000) : EvD K (tCB (rLenU K) (tCons te tNil)) ro ka (.val (.int s.length)) k1 := ev_cb (ea1 h) (rc_lenS hs)
theorem ev_eq {d e : D} (h : EvD K te ro ka x k1) (h2 : EvD K tf ro k1 y k2) (l1 : Pk k2 x d) (l2 : Pk k2 y e) (p1 : pl 61 d = true) (p2 : pl 61 e = true) : EvD K (tOp (rEqP K false) te tf) ro ka (.val (.bl (eqD d e))) k2 := ev_op h h2 (rv_eqP l1 l2 p1 p2)
theorem ev_ne {d e : D} (h : EvD K te ro ka x k1) (h2 : EvD K tf ro k1 y k2) (l1 : Pk k2 x d) (l2 : Pk k2 y e) (p1 : pl 61 d = true) (p2 : pl 61 e = true) : EvD K (tOp (rEqP K true) te tf) ro ka (.val (.bl (!eqD d e))) k2 := ev_op h h2 (rv_neP l1 l2 p1 p2)
theorem ev_eqI {i j : Int} (h : EvD K te ro ka (.val (.int i)) k1) (h2 : EvD K tf ro k1 (.val (.int j)) k2) : EvD K (tOp (rEqP K false) te tf) ro ka (.val (.bl (i == j))) k2 := ev_eq h h2 .v .v rfl rfl
theorem ev_eqS {i j : Str} (h : EvD K te ro ka (.val (.str i)) k1) (h2 : EvD K tf ro k1 (.val (.str j)) k2) : EvD K (tOp (rEqP K false) te tf) ro ka (.val (.bl (i == j))) k2 := ev_eq h h2 .v .v rfl rfl
theorem ev_addI {i j : Int} (h : EvD K te ro ka (.val (.int i)) k1) (h2 : EvD K tf ro k1 (.val (.int j)) k2) : EvD K (tOp (rAddU K) te tf) ro ka (.val (.int (i + j))) k2 := ev_op h h2 rv_addI
theorem ev_subI {i j : Int} (h : EvD K te ro ka (.val (.int i)) k1) (h2 : EvD K tf ro k1 (.val (.int j)) k2) : EvD K (tOp rSubI te tf) ro ka (.val (.int (i - j))) k2 := ev_op h h2 rv_sub
theorem ev_mulI {i j : Int} (h : EvD K te ro ka (.val (.int i)) k1) (h2 : EvD K tf ro k1 (.val (.int j)) k2) (c : IntMulOk i j) : EvD K (tOp rMulU te tf) ro ka (.val (.int (i * j))) k2 := ev_op h h2 (rvd_l (rv_I c fun _ => rfl))
theorem ev_mulL {i j : Int} (h : EvD K te ro ka (.val (.int i)) k1) (h2 : EvD K tf ro k1 (.val (.int j)) k2) (c : Builtin.Int.intBits i ≤ 64 := by decide) : EvD K (tOp rMulU te tf) ro ka (.val (.int (i * j))) k2 := ev_mulI h h2 (.of_left c)
theorem ev_mulR {i j : Int} (h : EvD K te ro ka (.val (.int i)) k1) (h2 : EvD K tf ro k1 (.val (.int j)) k2) (c : Builtin.Int.intBits j ≤ 64 := by decide) : EvD K (tOp rMulU te tf) ro ka (.val (.int (i * j))) k2 := ev_mulI h h2 (.of_right c)
theorem ev_modI {i j : Int} (h : EvD K te ro ka (.val (.int i)) k1) (h2 : EvD K tf ro k1 (.val (.int j)) k2) (c : 0 < j) : EvD K (tOp rModI te tf) ro ka (.val (.int (i % j))) k2 := ev_op h h2 (rv_mod c)
theorem ev_divI {i j : Int} (h : EvD K te ro ka (.val (.int i)) k1) (h2 : EvD K tf ro k1 (.val (.int j)) k2) (c : CDiv i j) : EvD K (tOp rDivI te tf) ro ka (.val (.int (i / j))) k2 := ev_op h h2 (rv_div c)
theorem ev_powI {i j : Int} (h : EvD K te ro ka (.val (.int i)) k1) (h2 : EvD K tf ro k1 (.val (.int j)) k2) (c : CPow i j) : EvD K (tOp rPowI te tf) ro ka (.val (.int (i ^ j.toNat))) k2 := ev_op h h2 (rv_pow c)
theorem ev_lt {i j : Int} (h : EvD K te ro ka (.val (.int i)) k1) (h2 : EvD K tf ro k1 (.val (.int j)) k2) : EvD K (tOp rLtI te tf) ro ka (.val (.bl (decide (i < j)))) k2 := ev_op h h2 rv_lt
theorem ev_gt {i j : Int} (h : EvD K te ro ka (.val (.int i)) k1) (h2 : EvD K tf ro k1 (.val (.int j)) k2) : EvD K (tOp rGtI te tf) ro ka (.val (.bl (decide (j < i)))) k2 := ev_op h h2 rv_gt
theorem ev_ge {i j : Int} (h : EvD K te ro ka (.val (.int i)) k1) (h2 : EvD K tf ro k1 (.val (.int j)) k2) : EvD K (tOp rGeI te tf) ro ka (.val (.bl (decide (j ≤ i)))) k2 := ev_op h h2 rv_ge
theorem ev_int1 {i : Int} (h : EvD K te ro ka (.val (.int i)) k1) : EvD K (tCB rIntU (tCons te tNil)) ro ka (.val (.int i)) k1 := ev_cb (ea1 h) rc_int
theorem ev_addS {i j : Str} (h : EvD K te ro ka (.val (.str i)) k1) (h2 : EvD K tf ro k1 (.val (.str j)) k2) (hz : i.length + j.length ≤ 100000) : EvD K (tOp (rAddU K) te tf) ro ka (.val (.str (i ++ j))) k2 := ev_op h h2 (rv_addS hz)
theorem ev_ix {t b : Bool} {ds : List D} {i : Int} {d : D} (h : EvD K te ro ka w k1) (h2 : EvD K tf ro k1 (.val (.int i)) k2) (l : Lk k2 w t ds b) (hd : atI ds i = some d) : EvD K (tOp (rIx K) te tf) ro ka (part b d) k2 := ev_op h h2 (rv_ix l hd)
theorem ev_ixV {t : Bool} {ds : List D} {i : Int} {d : D} (h : EvD K te ro ka w k1) (h2 : EvD K tf ro k1 (.val (.int i)) k2) (l : Lk k2 w t ds false) (hd : atI ds i = some d) : EvD K (tOp (rIx K) te tf) ro ka (.val d) k2 := ev_ix h h2 l hd
theorem ev_ixS {s : Str} {i : Int} {c : Nat} (h : EvD K te ro ka (.val (.str s)) k1) (h2 : EvD K tf ro k1 (.val (.int i)) k2) (hs : s.length ≤ 100000) (hc : atI s.cps.toList i = some c) : EvD K (tOp (rIx K) te tf) ro ka (.val (.str ⟨#[c]⟩)) k2 := ev_op h h2 (rv_ixS hs hc)
theorem ev_inS {c : Nat} {s : Str} (h : EvD K te ro ka (.val (.str ⟨#[c]⟩)) k1) (h2 : EvD K tf ro k1 (.val (.str s)) k2) : EvD K (tOp (rInU K) te tf) ro ka (.val (.bl (decide (c ∈ s.cps.toList)))) k2 := ev_op h h2 (rvd_l rv_inS)
theorem rv_niS {c : Nat} {s : Str} : RvD K rNotInS ka (.val (.str ⟨#[c]⟩)) (.val (.str s)) (.val (.bl (!decide (c ∈ s.cps.toList)))) := fun B F0 ro ta sg H u v Q e h1 h2 q =>
  ⟨c, s, e.tm_str h1, e.tm_str h2, q _ _ (e.push_imm fun _ => rfl)⟩
theorem ev_niS {c : Nat} {s : Str} (h : EvD K te ro ka (.val (.str ⟨#[c]⟩)) k1) (h2 : EvD K tf ro k1 (.val (.str s)) k2) : EvD K (tOp (rNiU K) te tf) ro ka (.val (.bl (!decide (c ∈ s.cps.toList)))) k2 := ev_op h h2 (rvd_l rv_niS)
theorem rv_catT {ds es : List D} (hz : ds.length + es.length ≤ 100000) : RvD K (rAddU K) ka (.val (.tup ds)) (.val (.tup es)) (.val (.tup (ds ++ es))) := rvd_r (rvd_r (rvd_r fun B F0 ro ta sg H u v Q e h1 h2 q => by
  obtain ⟨F, g, e⟩ := e
  obtain ⟨a, xs, rfl, s1, r1⟩ := Lk.vt.get e (e.tm _ h1)
  obtain ⟨b, ys, rfl, s2, r2⟩ := Lk.vt.get e (e.tm _ h2)
  refine ⟨a, b, xs, ys, rfl, rfl, s1, s2, by rw [rpl_len r1, rpl_len r2]; exact Nat.le_trans hz (by decide), fun h0 => ?_, fun _ h0 => ?_, fun _ _ p hp => ?_⟩
  · have hd : ds = [] := List.eq_nil_of_length_eq_zero (by rw [← rpl_len r1, h0]; rfl)
    subst hd
    exact q _ _ ⟨F, g, e.push (e.tm _ h2)⟩
  · have hd : es = [] := List.eq_nil_of_length_eq_zero (by rw [← rpl_len r2, h0]; rfl)
    subst hd
    rw [List.append_nil] at q
    exact q _ _ ⟨F, g, e.push (e.tm _ h1)⟩
  · obtain ⟨e4, g4⟩ := e.lay (o := .tup (xs ++ ys)) hp rfl
    exact q _ _ ⟨_, g.trans g4, e4.push ⟨p, _, rfl, .inl (.inl upd_same), RpL.mono g4.sub.exz e.nz _ _ (rpl_app r1 r2)⟩⟩))
theorem ev_catT {ds es : List D} (h : EvD K te ro ka (.val (.tup ds)) k1) (h2 : EvD K tf ro k1 (.val (.tup es)) k2) (hz : ds.length + es.length ≤ 100000) : EvD K (tOp (rAddU K) te tf) ro ka (.val (.tup (ds ++ es))) k2 := ev_op h h2 (rv_catT hz)

/-! ### calls -/
/-- a contract that works on no cells -/
theorem ev_callP {Cc : Ct} {ws : List W} {d : D} (ha : EvA K tr ro ka ws k1) (hC : Cc ws [] (Rt d [])) : EvD K (tCall (spC K Cc) [] E tr) ro ka (.val d) k1 := ev_callF (k1 := []) (k2 := []) k1 ha hC fun _ _ h => h
/-- .. on all -/
theorem ev_callA {Cc : Ct} {ws : List W} {d : D} (ha : EvA K tr ro ka ws k1) (hC : Cc ws k1 (Rt d k2)) : EvD K (tCall (spC K Cc) [] E tr) ro ka (.val d) k2 := ev_call ha hC fun _ _ h => h
/-- .. on the first cell -/
theorem ev_call1 {Cc : Ct} {ws : List W} {d : D} (ha : EvA K tr ro ka ws ((a, n) :: kr)) (hC : Cc ws [(a, n)] (Rt d [(a, m)])) : EvD K (tCall (spC K Cc) [] E tr) ro ka (.val d) ((a, m) :: kr) := ev_callF (k1 := [(a, n)]) (k2 := [(a, m)]) kr ha hC fun _ _ h => h
theorem evn_callP {Cc : Ct} {ws : List W} (ha : EvA K tr ro ka ws k1) (hC : Cc ws [] (Nt m [])) : EvN K (tCall (spC K Cc) [] E tr) ro ka m k1 := evn_call (k1 := []) (k2 := []) k1 ha hC fun _ _ h => h
/-- the call's end is told by a word: any data, any cells -/
theorem sp_rel {Cc : Ct} {ws : List W} {out : Oc} {vs : List V} {Q : VK} (e : En K B F0 ro (ka ++ kr) (vs.zip ws ++ ta) sg H) (hl : vs.length = ws.length) (hC : Cc ws ka out) (ho : ∀ o k, out o k → ∃ d, o = .ret d)
    (q : ∀ d k2 v H', out (.ret d) k2 → En K B F0 ro (k2 ++ kr) ((v, .val d) :: ta) sg H' → Q v H') : spC K Cc vs H Q E := by
  obtain ⟨F, g, e⟩ := e
  refine ⟨off H ka, F, ws, ka, out, hC, hl, ⟨F, Gr.refl _ _, e.into (ro' := []) (sg' := []) (ta' := vs.zip ws) rfl (fun i w h => by simp at h) fun p hp => List.mem_append_left _ hp⟩, fun d' k v H' o ⟨F', g', e'⟩ => ?_, fun C fs k dx H' o _ => ?_, fun C k H' o _ => ?_⟩
  · obtain ⟨g2, e2⟩ := e.back g' e' (tb := (v, .val d') :: ta) fun p hp => by
      rcases List.mem_cons.mp hp with rfl | hp
      · exact .inr ⟨d', rfl, List.mem_cons_self⟩
      · exact .inl (List.mem_append_right _ hp)
    exact q d' k v H' o ⟨F', g.trans g2, e2⟩
  · obtain ⟨_, z⟩ := ho _ _ o
    cases z
  · obtain ⟨_, z⟩ := ho _ _ o
    cases z
theorem g_call {Cc : Ct} {ws : List W} {out : Oc} {i : Nat} (kr : Cells) (ha : EvA K tr ro ka ws (k1 ++ kr)) (hC : Cc ws k1 out) (ho : ∀ o k, out o k → ∃ d, o = .ret d) (k : ∀ d k2, out (.ret d) k2 → Gp K B F0 ta De.nx (ro.set i (some (.val d))) (k2 ++ kr)) :
    Gp K B F0 ta (tAsg (tCall (spC K Cc) [] E tr) (gName i) De) ro ka := fun sg H e => ha B F0 ta sg H _ e fun vs H1 hl e1 => by
  rw [List.append_nil]
  exact sp_rel e1 hl hC ho fun d k2 v H' o e2 => k d k2 o _ _ (e2.set i)
theorem q_call {Cc : Ct} {ws : List W} {out : Oc} {i : Nat} (kr : Cells) (ha : EvA K tr ro ka ws (k1 ++ kr)) (hC : Cc ws k1 out) (ho : ∀ o k, out o k → ∃ d, o = .ret d) (k : ∀ d k2, out (.ret d) k2 → Gp K B F0 ta (u De) (ro.set i (some (.val d))) (k2 ++ kr)) :
    Gp K B F0 ta (tSeq (tAsg (tCall (spC K Cc) [] E tr) (gName i)) u De) ro ka := g_call (De := { De with nx := u De }) kr ha hC ho k
/-! ### returns -/
/-- a new cell is handed back as data -/
theorem g_retL {out : Oc} {ds : List D} (hr : RtOk K B F0 out De.rt) (h : EvN K te ro ka (.lst ds) k1) (o : out (.ret (.lst ds)) k1) : Gp K B F0 ta (tRet te De) ro ka := g_ret hr h.lst o
/-- .. as a cell -/
theorem g_retC {out : Oc} (hr : RtOk K B F0 out De.rt) (h : EvN K te ro ka n k1) (o : ∀ a, out (.ret (.adr a)) (k1 ++ [(a, n)])) : Gp K B F0 ta (tRet te De) ro ka := fun sg H e => h B F0 ta sg H _ e fun a H1 e1 =>
  hr (.adr a) _ (.ref a) H1 (o a) ((e1.push_imm (v := .ref a) (w := .val (.adr a)) fun _ => rfl).leave)
/-- .. of which a word tells -/
theorem g_retR {out : Oc} {R : Nd → Cells → Prop} (hr : RtOk K B F0 out De.rt) (h : EvNR K te ro ka R) (o : ∀ n k, R n k → ∃ ds, n = .lst ds ∧ out (.ret (.lst ds)) k) : Gp K B F0 ta (tRet te De) ro ka := fun sg H e => h B F0 ta sg H _ e fun n k a H1 r e1 => by
  obtain ⟨ds, rfl, o⟩ := o n k r
  exact hr (.lst ds) k (.ref a) H1 o e1.freeze_l.leave
theorem g_asgNR {R : Nd → Cells → Prop} {i : Nat} (h : EvNR K te ro ka R) (k : ∀ n k1 a, R n k1 → Gp K B F0 ta De.nx (ro.set i (some (.val (.adr a)))) (k1 ++ [(a, n)])) : Gp K B F0 ta (tAsg te (gName i) De) ro ka := fun sg H e => h B F0 ta sg H _ e fun n k1 a H1 r e1 => k n k1 a r _ _ (e1.setA i a)
theorem q_asgNR {R : Nd → Cells → Prop} {i : Nat} (h : EvNR K te ro ka R) (k : ∀ n k1 a, R n k1 → Gp K B F0 ta (u De) (ro.set i (some (.val (.adr a)))) (k1 ++ [(a, n)])) : Gp K B F0 ta (tSeq (tAsg te (gName i)) u De) ro ka := g_asgNR (De := { De with nx := u De }) h k
/-- a return of a call's end -/
theorem g_retS {Cc : Ct} {ws : List W} {out out' : Oc} (kr : Cells) (hr : RtOk K B F0 out De.rt) (ha : EvA K tr ro ka ws (k1 ++ kr)) (hC : Cc ws k1 out') (ho : ∀ o k, out' o k → ∃ d, o = .ret d) (o : ∀ d k2, out' (.ret d) k2 → out (.ret d) (k2 ++ kr)) :
    Gp K B F0 ta (tRet (tCall (spC K Cc) [] E tr) De) ro ka := fun sg H e => ha B F0 ta sg H _ e fun vs H1 hl e1 => by
  rw [List.append_nil]
  exact sp_rel e1 hl hC ho fun d k2 v H' o' e2 => hr d _ v H' (o d k2 o') e2.leave
theorem Gp.perm (h : Gp K B F0 ta P ro k1) (s : k1.Perm ka) : Gp K B F0 ta P ro ka := fun sg H e => h sg H (e.perm s)
end
end DL

/-! DN: comprehensions that map and choose; names, numbers (own work). -/
namespace DL
open PySem L2 PySem.W
section
variable {K : PySem.W.Frag} {ro : Ro} {ka k1 : Cells} {te : TE} {tt : TT} {wi : TI} {C : Cells → Prop} {j : Nat} {vs : List Nat} {α : Type}
theorem et_yes : EvT K tYes ro ka true ka := fun B F0 ta sg H Q e q => q H e
theorem take_succ_some {xs : List α} {i : Nat} {x : α} (h : xs[i]? = some x) : xs.take (i + 1) = xs.take i ++ [x] := by
  rw [List.take_succ, h]
  rfl
theorem evn_filt {xs : List α} {g : α → W} {f : α → D} {p : α → Bool} (h : EvI K wi ro ka (xs.map g) C k1) (hj : j ∈ vs) (hn : xs.length ≤ 1000000) (hC : C k1 ∧ ∀ x, C (k1 ++ [x]))
    (ht : ∀ x ∈ xs, EvT K tt ((wipeR ro vs).set j (some (g x))) k1 (p x) k1) (hs : ∀ x ∈ xs, p x = true → EvD K te ((wipeR ro vs).set j (some (g x))) k1 (.val (f x)) k1) : EvN K (tLc wi (gName j) tt te vs) ro ka (.lst ((xs.filter p).map f)) k1 := by
  refine evn_lc h hj (by rw [List.length_map]; exact hn) (fun i acc k => acc = ((xs.take i).filter p).map f ∧ k = k1) ⟨rfl, rfl⟩ (fun i acc k ⟨_, e⟩ => by subst e; exact hC) (fun i w acc k hw ⟨e1, e2⟩ => ?_) (fun acc k ⟨e1, e2⟩ => ⟨?_, e2⟩)
  · subst e1 e2
    rw [List.getElem?_map] at hw
    cases hx : xs[i]? with
    | none => rw [hx] at hw; cases hw
    | some x =>
      rw [hx] at hw
      cases hw
      have hm : x ∈ xs := List.mem_of_getElem? hx
      cases hp : p x with
      | false =>
        refine .inl ⟨k, hp ▸ ht x hm, ?_, rfl⟩
        rw [take_succ_some hx, List.filter_append]
        simp [hp]
      | true =>
        refine .inr ⟨k, k, f x, hp ▸ ht x hm, hs x hm hp, ?_, rfl⟩
        rw [take_succ_some hx, List.filter_append]
        simp [hp]
  · rw [e1, List.length_map, List.take_length]
theorem evn_map {xs : List α} {g : α → W} {f : α → D} (h : EvI K wi ro ka (xs.map g) C k1) (hj : j ∈ vs) (hn : xs.length ≤ 1000000) (hC : C k1 ∧ ∀ x, C (k1 ++ [x]))
    (hs : ∀ x ∈ xs, EvD K te ((wipeR ro vs).set j (some (g x))) k1 (.val (f x)) k1) : EvN K (tLc wi (gName j) tYes te vs) ro ka (.lst (xs.map f)) k1 := by
  have := evn_filt (tt := tYes) (p := fun _ => true) h hj hn hC (fun _ _ => et_yes) (fun x hx _ => hs x hx)
  have e : xs.filter (fun _ => true) = xs := List.filter_eq_self.mpr fun _ _ => rfl
  rwa [e] at this
end
/-! ### texts -/
theorem str_len (s : Str) : s.length = s.cps.toList.length := by
  show s.cps.size = _
  simp
theorem str_ext {s t : Str} (h : s.cps.toList = t.cps.toList) : s = t := by
  cases s with
  | mk a =>
    cases t with
    | mk b =>
      have : a = b := by
        have h2 : a.toList = b.toList := h
        exact Array.toList_inj.mp h2
      rw [this]
theorem str_nil {s : Str} (h : s.cps.toList = []) : s = ("" : Str) := str_ext h
def letL : List Nat := ("abcdefghijklmnopqrstuvwxyz" : Str).cps.toList
def digL : List Nat := ("0123456789" : Str).cps.toList
/-- is a text a name: its signs -/
def nmL : List Nat → Bool
  | [] => false
  | c :: r => decide ((c :: r).length ≤ 8) && (decide (c ∈ letL) && (c :: r).all fun x => decide (x ∈ letL) || decide (x ∈ digL))
def isNm (s : Str) : Bool := nmL s.cps.toList
theorem isNm_len {s : Str} (h : isNm s = true) : s.length ≤ 8 := by
  unfold isNm at h
  rw [str_len]
  cases hc : s.cps.toList with
  | nil => simp
  | cons c r =>
    rw [hc] at h
    unfold nmL at h
    rw [Bool.and_eq_true] at h
    exact of_decide_eq_true h.1
/-- .. data -/
def isNmD : D → Bool
  | .str s => isNm s
  | _ => false
/-- data that a name's test may be asked of -/
def nmOk : D → Prop
  | .str s => s.length ≤ 1000
  | d => tyD d ≠ none
/-- is it a whole number -/
def isWh : D → Bool
  | .int _ => true
  | _ => false
theorem at0 {β : Type} {c : β} {r : List β} : atI (c :: r) 0 = some c := atI_nat (j := 0) rfl
theorem atZ {β : Type} {xs : List β} {i : Int} {x : β} (h0 : 0 ≤ i) (h : xs[i.toNat]? = some x) : atI xs i = some x := by
  have := atI_nat h
  rwa [Int.toNat_of_nonneg h0] at this
/-! ### cuts -/
theorem six_nat {n : Nat} {i : Int} (h0 : 0 ≤ i) (h1 : i ≤ n) (d : Nat) : HT.sIx n d (some i) = i.toNat := by
  unfold HT.sIx
  simp only
  first
    | omega
    | (split <;> omega)
    | (repeat' split) <;> omega
theorem six_none {n d : Nat} : HT.sIx n d none = d := rfl
theorem cut_from {β : Type} {xs : List β} {i : Int} (h0 : 0 ≤ i) (h1 : i ≤ xs.length) : cutD xs (some i) none = xs.drop i.toNat := by
  unfold cutD
  rw [six_nat h0 h1, six_none]
  exact List.take_of_length_le (by rw [List.length_drop]; exact Nat.le_refl _)
theorem cut_to {β : Type} {xs : List β} {i : Int} (h0 : 0 ≤ i) (h1 : i ≤ xs.length) : cutD xs none (some i) = xs.take i.toNat := by
  unfold cutD
  rw [six_nat h0 h1, six_none, List.drop_zero, Nat.sub_zero]
theorem cut_len {β : Type} (xs : List β) (lo hi : Option Int) : (cutD xs lo hi).length ≤ xs.length := by
  unfold cutD
  rw [List.length_take, List.length_drop]
  omega
/-! ### texts in lists -/
theorem eqD_str {a b : Str} : eqD (.str a) (.str b) = (a == b) := rfl
def stD (ss : List Str) : List D := ss.map .str
theorem stD_len (ss : List Str) : (stD ss).length = ss.length := List.length_map ..
theorem pl_stD (ss : List Str) (n : Nat) : (stD ss).all (pl n) = true := List.all_eq_true.mpr fun d hd => by
  obtain ⟨s, _, rfl⟩ := List.mem_map.mp hd
  cases n <;> rfl
theorem eqL_stD : ∀ xs ys : List Str, eqL (stD xs) (stD ys) = decide (xs = ys)
  | [], [] => rfl
  | [], _ :: _ => rfl
  | _ :: _, [] => rfl
  | x :: xs, y :: ys => by
    have ih := eqL_stD xs ys
    show (eqD (.str x) (.str y) && eqL (stD xs) (stD ys)) = _
    rw [ih, eqD_str]
    by_cases h1 : x = y
    · subst h1
      by_cases h2 : xs = ys
      · subst h2; simp
      · simp [h2]
    · simp [h1]
theorem part_of {b : Bool} {ds : List D} (h : SqF b ds) {d : D} (hd : d ∈ ds) : part b d = .val d := by
  rcases h with h | h
  · subst h; rfl
  · have := List.all_eq_true.mp h d hd
    unfold part
    rw [this]
    simp
section
variable {K : PySem.W.Frag} {ka kr : Cells} {w : W} {t b : Bool} {ds : List D}
theorem Lk.stay (l : Lk ka w t ds b) : Stay w ds ka := by
  cases l with
  | vl => trivial
  | vt => trivial
  | wl => trivial
  | wt => trivial
  | ce j h => exact List.mem_of_getElem? h
theorem Lk.app (l : Lk ka w t ds b) : Lk (ka ++ kr) w t ds b := l.mono _ (by
  have := l.stay
  unfold Stay at this ⊢
  split
  · rename_i a
    exact List.mem_append_left _ this
  · trivial)
end
theorem find_first {β : Type} {p : β → Bool} {ds : List β} {i : Nat} {d : β} (h : ∀ e ∈ ds.take i, p e = false) (hi : ds[i]? = some d) (hp : p d = true) : ds.find? p = some d := by
  have e : ds = ds.take i ++ d :: ds.drop (i + 1) := by
    have hl := (List.getElem?_eq_some_iff.mp hi).1
    have h2 : ds[i] = d := (List.getElem?_eq_some_iff.mp hi).2
    rw [← h2, List.getElem_cons_drop, List.take_append_drop]
  rw [e, List.find?_append, List.find?_eq_none.mpr (fun x hx => by rw [h x hx]; exact Bool.false_ne_true)]
  simp [hp]
theorem find_none {β : Type} {p : β → Bool} {ds : List β} (h : ∀ e ∈ ds, p e = false) : ds.find? p = none := List.find?_eq_none.mpr fun x hx => by rw [h x hx]; exact Bool.false_ne_true
end DL
namespace DL
open PySem L2 PySem.W
section
variable {K : PySem.W.Frag} {B F0 : Hp} {ro : Ro} {ka k1 k2 : Cells} {ta : List (V × W)} {tt : TT} {De : Ends} {t u : TS}
/-- an if whose ends meet again under a word -/
theorem q_whenI {b : Bool} (Inv : Ro → Cells → Prop) (h : EvT K tt ro ka b k1) (h1 : b = true → ∀ nx, (∀ ro2 ka2, Inv ro2 ka2 → Gp K B F0 ta nx ro2 ka2) → Gp K B F0 ta (t { De with nx := nx }) ro k1) (h2 : b = false → Inv ro k1) (k : ∀ ro2 ka2, Inv ro2 ka2 → Gp K B F0 ta (u De) ro2 ka2) : Gp K B F0 ta (tSeq (tIfS tt t tNext) u De) ro ka :=
  q_when h (fun hb => h1 hb _ k) fun hb => k _ _ (h2 hb)
end
/-! ### the pool of the laws -/
structure Pl where
  a : Int
  b : Int
  c : Int
def Pl.ds (p : Pl) : List D := [.int p.a, .int p.b, .int p.c]
structure Pl.Ok (p : Pl) (n : Int) : Prop where
  a0 : 0 ≤ p.a
  b0 : 0 ≤ p.b
  b1 : p.b < 1000000007
  c0 : 0 ≤ p.c
  c1 : p.c ≤ n
theorem Pl.Ok.up {p : Pl} {m n : Int} (h : p.Ok m) (l : m ≤ n) : p.Ok n := ⟨h.a0, h.b0, h.b1, h.c0, Int.le_trans h.c1 l⟩
def fldZ (z : Int) : Int := if z < 0 then 0 - 2 * z - 1 else 2 * z
def plOf (z : Int) : Pl := if fldZ z ≥ 10 ^ 18 then ⟨fldZ z, fldZ z % 1000000007, 0⟩ else ⟨0, fldZ z % 1000000007, 0⟩
theorem fldZ_nn (z : Int) : 0 ≤ fldZ z := by
  unfold fldZ
  split <;> omega
theorem plOf_ok (z : Int) : (plOf z).Ok 0 := by
  have h := fldZ_nn z
  have h0 : 0 ≤ fldZ z % 1000000007 := Int.emod_nonneg _ (by decide)
  have h1 : fldZ z % 1000000007 < 1000000007 := Int.emod_lt_of_pos _ (by decide)
  unfold plOf
  split
  · exact ⟨h, h0, h1, Int.le_refl _, Int.le_refl _⟩
  · exact ⟨Int.le_refl _, h0, h1, Int.le_refl _, Int.le_refl _⟩
/-- one draw below m -/
def tk (p : Pl) (m : Int) : Int × Pl :=
  if 0 < p.a then (p.a % m, ⟨p.a / m, p.b, p.c⟩)
  else (((p.b + 7919 * (p.c + 1) + 104729) ^ (5 : Int).toNat % 2147483647 + (p.c + 1)) * 40692 % 2147483629 % m, ⟨p.a, p.b, p.c + 1⟩)
theorem tk_lt (p : Pl) {m : Int} (h : 0 < m) : 0 ≤ (tk p m).1 ∧ (tk p m).1 < m := by
  unfold tk
  split
  · exact ⟨Int.emod_nonneg _ (by omega), Int.emod_lt_of_pos _ h⟩
  · exact ⟨Int.emod_nonneg _ (by omega), Int.emod_lt_of_pos _ h⟩
theorem tk_ok {p : Pl} {n m : Int} (h : p.Ok n) (hm : 0 < m) : (tk p m).2.Ok (n + 1) := by
  obtain ⟨h1, h2, h3, h4, h5⟩ := h
  unfold tk
  split
  · exact ⟨Int.ediv_nonneg h1 (by omega), h2, h3, h4, by show p.c ≤ n + 1; omega⟩
  · exact ⟨h1, h2, h3, by show 0 ≤ p.c + 1; omega, by show p.c + 1 ≤ n + 1; omega⟩
end DL

/-! DP: texts by their signs (own work). -/
namespace DL
open PySem L2 PySem.W
/-- the text of these signs -/
def tx (l : List Nat) : Str := ⟨l.toArray⟩
theorem tx_cps (l : List Nat) : (tx l).cps.toList = l := rfl
theorem tx_len (l : List Nat) : (tx l).length = l.length := by rw [str_len, tx_cps]
theorem tx_app (l m : List Nat) : tx l ++ tx m = tx (l ++ m) := by
  refine str_ext ?_
  show ((tx l).cps ++ (tx m).cps).toList = l ++ m
  rw [Array.toList_append]
  rfl
theorem tx_cut (l : List Nat) (lo hi : Option Int) : cutS (tx l) lo hi = tx (cutD l lo hi) := by
  unfold cutS cutD
  rw [tx_cps, tx_len]
  rfl
theorem letters_tx : ("abcdefghijklmnopqrstuvwxyz" : Str) = tx letL := str_ext rfl
theorem digits_tx : ("0123456789" : Str) = tx digL := str_ext rfl
theorem let_len : letL.length = 26 := by decide
theorem sig_len : (letL ++ digL).length = 36 := by decide
theorem isNm_tx (l : List Nat) : isNm (tx l) = nmL l := by unfold isNm; rw [tx_cps]
theorem nmL_of {c : Nat} {r : List Nat} (h : c ∈ letL) (h2 : ∀ x ∈ c :: r, x ∈ letL ++ digL) (hl : (c :: r).length ≤ 8) : nmL (c :: r) = true := by
  show (decide ((c :: r).length ≤ 8) && (decide (c ∈ letL) && (c :: r).all fun x => decide (x ∈ letL) || decide (x ∈ digL))) = true
  rw [decide_eq_true hl, decide_eq_true h, Bool.true_and, Bool.true_and, List.all_eq_true]
  intro x hx
  rw [Bool.or_eq_true, decide_eq_true_eq, decide_eq_true_eq]
  exact List.mem_append.mp (h2 x hx)
/-- a name, its signs -/
theorem nm_of {l : List Nat} (h0 : ∃ c, l.head? = some c ∧ c ∈ letL) (h2 : ∀ x ∈ l, x ∈ letL ++ digL) (hl : l.length ≤ 8) : isNm (tx l) = true := by
  rw [isNm_tx]
  obtain ⟨c, hc, hm⟩ := h0
  cases l with
  | nil => cases hc
  | cons d r =>
    cases hc
    exact nmL_of hm h2 hl
/-- a drawn sign -/
theorem sgn_at {l : List Nat} {i : Int} (h0 : 0 ≤ i) (h1 : i < l.length) : ∃ c, atI l i = some c ∧ c ∈ l := by
  have hlt : i.toNat < l.length := by omega
  exact ⟨l[i.toNat], atZ h0 (List.getElem?_eq_getElem hlt), List.getElem_mem hlt⟩
section
variable {K : PySem.W.Frag} {ro : Ro} {ka k1 k2 k3 : Cells} {te tf : TE} {tl th : TO}
theorem ev_ixT {l : List Nat} {i : Int} {c : Nat} (h : EvD K te ro ka (.val (.str (tx l))) k1) (h2 : EvD K tf ro k1 (.val (.int i)) k2) (hs : l.length ≤ 1000) (hc : atI l i = some c) : EvD K (tOp (rIx K) te tf) ro ka (.val (.str (tx [c]))) k2 := ev_ixS h h2 (by rw [tx_len]; omega) (by rw [tx_cps]; exact hc)
theorem ev_addT {l m : List Nat} (h : EvD K te ro ka (.val (.str (tx l))) k1) (h2 : EvD K tf ro k1 (.val (.str (tx m))) k2) (hz : l.length + m.length ≤ 1000) : EvD K (tOp (rAddU K) te tf) ro ka (.val (.str (tx (l ++ m)))) k2 := (ev_addS h h2 (by rw [tx_len, tx_len]; omega)).to (by rw [tx_app])
theorem ev_slX {lo hi : Option Int} {l : List Nat} (ha : EvD K te ro ka (.val (.str (tx l))) k1) (h1 : EvO K tl ro k1 lo k2) (h2 : EvO K th ro k2 hi k3) (hs : l.length ≤ 1000) : EvD K (tSl (rSlU K) te tl th) ro ka (.val (.str (tx (cutD l lo hi)))) k3 := (ev_slS ha h1 h2 (by rw [tx_len]; omega)).to (by rw [tx_cut])
theorem ev_lenX {l : List Nat} (h : EvD K te ro ka (.val (.str (tx l))) k1) (hs : l.length ≤ 1000) : EvD K (tCB (rLenU K) (tCons te tNil)) ro ka (.val (.int l.length)) k1 := (ev_lenS h (by rw [tx_len]; omega)).to (by rw [tx_len])
end
end DL

/-! DR: expressions that raise, by data (own work). -/
namespace DL
open PySem L2 PySem.W
/-- te ends with an exception of C1, with the fields gs -/
def EvX (K : PySem.W.Frag) (te : TE) (ro : Ro) (ka : Cells) (E : XK) (C1 : Addr) (gs : List (Str × D)) (k2 : Cells) : Prop := ∀ B F0 ta sg H (Q : VK), En K B F0 ro ka ta sg H → (∀ dx H', En K B F0 ro (k2 ++ [(dx, .xd gs)]) ta sg H' → E (.ref C1) (some dx) H') → te sg H Q
section
variable {K : PySem.W.Frag} {B F0 : Hp} {ro : Ro} {ka k1 k2 k3 kr : Cells} {ta : List (V × W)} {sg : L2.St} {H : Hp} {te tf : TE} {tr : TA} {x y : W} {C C1 : Addr} {fs gs : List (Str × D)} {b : Bool} {E : XK} {De : Ends}
theorem evx_call {Cc : Ct} {ws : List W} {E' : XK} (ha : EvA K tr ro ka ws (k2 ++ kr)) (hC : Cc ws k2 (Xt C1 gs k3)) (hE : E' = E) : EvX K (tCall (spC K Cc) [] E' tr) ro ka E C1 gs (k3 ++ kr) := fun B F0 ta sg H Q e q => by
  subst hE
  refine ha B F0 ta sg H _ e fun vs H1 hl e1 => ?_
  rw [List.append_nil]
  refine sp_exc e1 hl hC (fun _ _ z => z) fun dx H' e3 => q dx H' (e3.perm ?_)
  rw [List.append_assoc, List.append_assoc]
  exact List.Perm.append_left _ List.perm_append_comm
end
end DL
namespace DL
open PySem L2 PySem.W
theorem cut_to' {β : Type} {xs : List β} {i : Int} (h0 : 0 ≤ i) : cutD xs none (some i) = xs.take i.toNat := by
  by_cases h1 : i ≤ xs.length
  · exact cut_to h0 h1
  · unfold cutD HT.sIx
    dsimp only
    rw [if_neg (by omega), List.drop_zero, Nat.sub_zero, Nat.min_eq_right (by omega), List.take_of_length_le (Nat.le_refl _), List.take_of_length_le (by omega)]
theorem stD_app (xs ys : List Str) : stD xs ++ stD ys = stD (xs ++ ys) := by unfold stD; rw [List.map_append]
theorem stD_get {ss : List Str} {i : Nat} {s : Str} (h : ss[i]? = some s) : (stD ss)[i]? = some (.str s) := by unfold stD; rw [List.getElem?_map, h]; rfl
end DL
namespace DL
open PySem L2 PySem.W
/-- the end of a loop within a loop -/
theorem g_jpH {K : PySem.W.Frag} {B F0 : Hp} {ta ta' : List (V × W)} {Inv : Ro → Cells → Prop} {ro : Ro} {ka : Cells} (h : ∀ p ∈ ta, p ∈ ta') (i : Inv ro ka) : Gp K B F0 ta' (Jp K B F0 ta Inv) ro ka := fun sg H e => ⟨ro, ka, i, e.held h⟩
end DL
namespace DL
open PySem L2 PySem.W
def inD (ns : List Int) : List D := ns.map .int
/-- w is the script -/
def Scr (K : PySem.W.Frag) (w : W) (ns : List Int) : Prop := w = .val (.lst (inD ns)) ∨ ∃ p, w = .val (.adr p) ∧ ∀ H, SqL K H p (ns.map V.int)
theorem law_sp {K : PySem.W.Frag} {Cc : Ct} {H : Hp} {a : Addr} {ns : List Int} (hC : ∀ z, Scr K z ns → Cc [z] [] (Rt (.bl true) [])) (hS : SqL K H a (ns.map V.int)) : spC K Cc [.ref a] H (fun v _ => v = .bl true) fun _ _ _ => False := by
  have rt : ∀ {B F0 : Hp}, RtOk K B F0 (Rt (.bl true) []) (fun v _ => v = .bl true) := fun {B F0} d ka v H' o e => by
    obtain ⟨h, _⟩ := o
    cases h
    exact e.tm_bl List.mem_cons_self
  have rx : ∀ {B F0 : Hp}, RxOk K B F0 (Rt (.bl true) []) (fun _ _ _ => False) := fun {B F0} => ⟨fun C fs ka dx H' o _ => (by cases o.1), fun C ka H' o _ => (by cases o.1)⟩
  have nob : Sub (fun _ => none) H := fun _ _ h => by cases h
  rcases id hS with h | h
  · refine ⟨fun _ => none, gH H, [.val (.lst (inD ns))], [], _, hC _ (.inl rfl), rfl, ⟨gH H, Gr.refl _ _, gH_nz, gH_exz, nob, List.nodup_nil, fun p hp => (by cases hp), rfl, fun i w e => by simp at e, fun p hp => ?_⟩, rt, rx⟩
    have hp2 : p = (V.ref a, W.val (.lst (inD ns))) := by simpa using hp
    subst hp2
    refine ⟨a, ns.map V.int, rfl, .inl ?_, rpl_ints ns⟩
    unfold gH
    rcases h with h | ⟨o, h⟩
    · rw [h]
    · rw [h]
      rfl
  · refine ⟨fun _ => none, fun _ => none, [.val (.adr a)], [], _, hC _ (.inr ⟨a, rfl, fun _ => .inr h⟩), rfl, ⟨fun _ => none, Gr.refl _ _, fun _ _ h => (by cases h), fun _ _ h => (by cases h), nob, List.nodup_nil, fun p hp => (by cases hp), rfl, fun i w e => by simp at e, fun p hp => ?_⟩, rt, rx⟩
    have hp2 : p = (V.ref a, W.val (.adr a)) := by simpa using hp
    subst hp2
    rfl
/-- what the head must tell of a law's def: its contract, kept by every list of numbers -/
def LawIn (l : PySem.W.OpenLaw) (k : Nat) (x : Str) (w : World) (mg : Str → Option Value) (f : Addr) (h : Heap) : Prop :=
  ∃ (K : PySem.W.Frag) (Cc : Ct) (fd : FuncData), K.In h ∧ (∀ z ns, Scr K z ns → Cc [z] [] (Rt (.bl true) [])) ∧ (∀ (s : Shared) (u : Value), BindsTo s fd ⟨[u], []⟩ [(x, u)]) ∧ ∀ base : Heap, FnOk l.prog w K mg base (L2.CX l.prog w) k f fd [x] (spC K Cc)
abbrev LawWalk (l : PySem.W.OpenLaw) (q : Program) (loose : List Str) (XP : (Str → Option Value) → Heap → Prop) (YP : World → Heap → Prop) (d : DefRec) : Prop := PySem.W.WalkO q loose XP YP l.row.toRowW d [] (fun g us => PySem.call g us)
/-- the law's walk, from what the head tells -/
theorem walk_D {l : PySem.W.OpenLaw} {n k : Nat} {q : Program} {loose : List Str} {XP : (Str → Option Value) → Heap → Prop} {YP : World → Heap → Prop} {d : DefRec} {x : Str} (most : l.most = some n) (fits : n ≤ sizeLine)
    (plain : d.params.defaults = []) (room : Room k callerA) (told : ∀ w mg f h, YP w h → h.Ns mainGlobals mg → mg d.name = some (.ref f) → LawIn l k x w mg f h) : LawWalk l q loose XP YP d :=
  Att.attach_call most plain fun w _ _ mg _ f _ _ _ _ arg vs ns G known _ _ _ at_ obj nums short grown => by
    have ⟨K, Cc, fd, inH, keeps, binds, ok⟩ := told w mg f _ known G.T.g at_
    exact law_call inH G.T.g G.T.b G.T.builtins G.T.nolimit grown obj nums (Nat.le_trans short fits) room (fun base _ _ => ok base) binds (fun H _ S => law_sp (fun z hz => keeps z ns hz) S) fun H e s' z => by
      obtain ⟨_, _, _, _, _, _, _, _, _, _, _, _, bad⟩ := z
      exact bad
end DL

/-! DU: tuple * number (own work). -/
namespace DL
open PySem PySem.Spec PyProof.Rows L2
/-- a tuple taken once is the tuple itself -/
theorem once_same {l : Addr} {us : Array Value} {tok : Tok} : Meets (Builtin.«tuple.__mul__» ⟨[.ref l, .int 1 tok], []⟩) (fun _ R st => IsTup st.heap l us ∧ R (.ok (.ret (.ref l))) st) := Meets.of_wp fun _ _ _ _ st both => by
  have ⟨⟨⟨kind, dct, stuff, slots⟩, there, k, n, d⟩, over⟩ := both
  cases k
  cases d
  have one : (us.isEmpty || (1 : Int) == 1) = true := Bool.or_eq_true_iff.mpr (.inr rfl)
  have index := AutoSeq1.idx_int
  cases st
  wp_walk using wpAny_loadPart' there
  exact ⟨_, rfl, over⟩
def rOnceT (K : PySem.W.Frag) : R2 := fun x y H Q => ∃ l xs, x = .ref l ∧ y = .int 1 ∧ SqT K H l xs ∧ Q (.ref l) H
theorem op_onceT {X : Cx} : OpR X (binaryOp .Mult) (rOnceT X.K) := fun pins st sg H x y v u Q I rx ry want => by
  have ⟨l, xs, ex, ey, t, q⟩ := want
  subst ex ey
  cases rx
  have ⟨tok, e⟩ := ry
  subst e
  have ⟨us, _, tup, _⟩ := I.tuple t
  have ⟨⟨kind, dct, stuff, slots⟩, there, k, n, d⟩ := tup
  cases k
  cases d
  have here : st.TypeIs (.ref l) "tuple" := ⟨_, there, rfl⟩
  have done : wpAny (model X.prog X.w) X.A (call (.builtin "tuple.__mul__") [.ref l, .int 1 tok]) (EP X pins sg Q) X.xe st := call_meets F.slot_tuple_mul here F.entry_tuple_mul (F.args_tuple_mul_2 _ _) once_same ⟨tup, .ref l, H, I, rfl, q⟩
  have declined : wpAny (model X.prog X.w) X.A (call (.builtin "int.__rmul__") [.int 1 tok, .ref l]) (fun r s1 => r = .notImplemented ∧ s1.TypeIs (.ref l) "tuple" ∧ wpAny (model X.prog X.w) X.A (call (.builtin "tuple.__mul__") [.ref l, .int 1 tok]) (EP X pins sg Q) X.xe s1) X.xe st :=
    call_meets F.slot_int_rmul (typeIs_int st 1 tok) F.entry_int_rmul (F.args_int_rmul_2 _ _) (int_rmul_tuple 1 tok l us.toArray n dct slots) ⟨there, rfl, here, done⟩
  exact wpAny_binaryOp_repeat_ref (U := "int") (by decide) here (fun s1 => typeIs_int s1 1 tok) noFill_tuple_mul F.fills_int_mul F.slot_int_rmul repeat_tuple F.slot_int_index.lookup declined
/-- numbers, list * number, tuple * number -/
def rMulV (K : PySem.W.Frag) : R2 := fun x y H Q => rMulU x y H Q ∨ (fun x y H Q => rRepT K x y H Q ∨ rOnceT K x y H Q) x y H Q
theorem op_mulV {X : Cx} : OpR X (binaryOp .Mult) (rMulV X.K) := op_mulU.or (op_repT.or op_onceT)
section
open PySem.W
variable {K : PySem.W.Frag} {ro : Ro} {ka k1 k2 : Cells} {te tf : TE}
theorem rv_repT {ds : List D} {i : Int} (hne : ds ≠ []) (h1 : 1 ≤ i) (h2 : i ≤ 1000) (hl : ds.length ≤ 1000) : RvD K (rMulV K) ka (.val (.tup ds)) (.val (.int i)) (.val (.tup (List.replicate i.toNat ds).flatten)) := by
  by_cases h : i = 1
  · subst h
    have e : (List.replicate (1 : Int).toNat ds).flatten = ds := by simp
    rw [e]
    refine rvd_r (rvd_r fun B F0 ro ta sg H u v Q e hu hv q => ?_)
    obtain ⟨F, g, ef⟩ := id e
    obtain ⟨a, xs, rfl, s1, r1⟩ := Lk.vt.get ef (ef.tm _ hu)
    exact ⟨a, xs, rfl, e.tm_int hv, s1, q _ _ ⟨F, g, ef.push (ef.tm _ hu)⟩⟩
  · refine rvd_r (rvd_l fun B F0 ro ta sg H u v Q e hu hv q => ?_)
    obtain ⟨F, g, ef⟩ := id e
    obtain ⟨a, xs, rfl, s1, r1⟩ := Lk.vt.get ef (ef.tm _ hu)
    refine ⟨a, i, xs, rfl, e.tm_int hv, s1, fun z => hne (List.eq_nil_of_length_eq_zero (by rw [← rpl_len r1, z]; rfl)), by omega, h2, by rw [rpl_len r1]; exact hl, fun p hp => q _ _ ?_⟩
    obtain ⟨e4, g4⟩ := ef.lay (o := .tup (List.replicate i.toNat xs).flatten) hp rfl
    exact ⟨_, g.trans g4, e4.push ⟨p, _, rfl, .inl (.inl upd_same), RpL.mono g4.sub.exz ef.nz _ _ (rpl_repl r1 _)⟩⟩
theorem ev_repT {ds : List D} {i : Int} (h : EvD K te ro ka (.val (.tup ds)) k1) (h' : EvD K tf ro k1 (.val (.int i)) k2) (hne : ds ≠ []) (h1 : 1 ≤ i) (h2 : i ≤ 1000) (hl : ds.length ≤ 1000) : EvD K (tOp (rMulV K) te tf) ro ka (.val (.tup (List.replicate i.toNat ds).flatten)) k2 := ev_op h h' (rv_repT hne h1 h2 hl)
/-- name op= number -/
theorem g_augI {B F0 : Hp} {ta : List (V × W)} {De : Ends} {i : Nat} {x y z : Int} {ti : TIp} (hi : ro[i]? = some (some (.val (.int x)))) (h : EvD K te ro ka (.val (.int y)) k1) (ht : ∀ H Q, Q (.int z) H → ti (.int x) (.int y) H Q) (k : Gp K B F0 ta De.nx (ro.set i (some (.val (.int z)))) k1) : Gp K B F0 ta (tAug i te ti De) ro ka := fun sg H e => by
  obtain ⟨F, g, ef⟩ := id e
  obtain ⟨v, h1, h2⟩ := ef.sl i _ hi
  have hv : v = .int x := h2
  subst hv
  refine ⟨_, h1, h B F0 ta sg H _ e fun w H1 e1 => ?_⟩
  have hw := e1.tm_int (v := w) (i := y) List.mem_cons_self
  subst hw
  exact ht _ _ (k _ _ ((e1.pop.push_imm (v := .int z) (w := .val (.int z)) fun _ => rfl).set i))
end
end DL

/-! DV: dicts, sorted texts, data compared by < (own work). -/
namespace DL
open PySem L2 PySem.W

/-! ### tables -/
section
variable {κ α β : Type} [DecidableEq κ]
def getT (kvs : List (κ × α)) (k : κ) : Option α := (kvs.find? fun kv => decide (kv.1 = k)).map (·.2)
def hasT (kvs : List (κ × α)) (k : κ) : Bool := kvs.any fun p => decide (p.1 = k)
def newAt (k : κ) (v : α) (p : κ × α) : κ × α := if p.1 = k then (p.1, v) else p
/-- a key that stands keeps its place, a new one comes last -/
def putT (kvs : List (κ × α)) (k : κ) (v : α) : List (κ × α) := if hasT kvs k = true then kvs.map (newAt k v) else kvs ++ [(k, v)]
def dropT (kvs : List (κ × α)) (k : κ) : List (κ × α) := kvs.filter fun kv => decide (kv.1 ≠ k)
/-- tables of the same keys -/
def PT (R : α → β → Prop) : List (κ × α) → List (κ × β) → Prop
  | [], xs => xs = []
  | (k, d) :: ds, xs => ∃ x ys, xs = (k, x) :: ys ∧ R d x ∧ PT R ds ys
variable {R : α → β → Prop}
theorem PT.any : ∀ {ds : List (κ × α)} {xs : List (κ × β)}, PT R ds xs → ∀ k, hasT xs k = hasT ds k
  | [], xs, h, k => by rw [show xs = [] from h]; rfl
  | (k', d) :: ds, xs, h, k => by
    obtain ⟨x, ys, rfl, _, h2⟩ := h
    unfold hasT
    rw [List.any_cons, List.any_cons]
    exact congrArg (fun z => decide (k' = k) || z) (PT.any h2 k)
theorem PT.map (k : κ) {d : α} {x : β} (r : R d x) : ∀ {ds : List (κ × α)} {xs : List (κ × β)}, PT R ds xs → PT R (ds.map (newAt k d)) (xs.map (newAt k x))
  | [], xs, h => by rw [show xs = [] from h]; rfl
  | (k', d') :: ds, xs, h => by
    obtain ⟨x', ys, rfl, h1, h2⟩ := h
    have rest := PT.map k r h2
    by_cases e : k' = k
    · have e1 : newAt k d (k', d') = (k', d) := if_pos e
      have e2 : newAt k x (k', x') = (k', x) := if_pos e
      rw [List.map_cons, e1, List.map_cons, e2]
      exact ⟨x, _, rfl, r, rest⟩
    · have e1 : newAt k d (k', d') = (k', d') := if_neg e
      have e2 : newAt k x (k', x') = (k', x') := if_neg e
      rw [List.map_cons, e1, List.map_cons, e2]
      exact ⟨x', _, rfl, h1, rest⟩
theorem PT.snoc {k : κ} {d : α} {x : β} (r : R d x) : ∀ {ds : List (κ × α)} {xs : List (κ × β)}, PT R ds xs → PT R (ds ++ [(k, d)]) (xs ++ [(k, x)])
  | [], xs, h => by rw [show xs = [] from h]; exact ⟨x, [], rfl, r, rfl⟩
  | (k', d') :: ds, xs, h => by
    obtain ⟨x', ys, rfl, h1, h2⟩ := h
    exact ⟨x', _, rfl, h1, PT.snoc r h2⟩
theorem PT.put {ds : List (κ × α)} {xs : List (κ × β)} (h : PT R ds xs) (k : κ) {d : α} {x : β} (r : R d x) : PT R (putT ds k d) (putT xs k x) := by
  unfold putT
  rw [h.any k]
  split
  · exact h.map k r
  · exact h.snoc r
theorem PT.drop (k : κ) : ∀ {ds : List (κ × α)} {xs : List (κ × β)}, PT R ds xs → PT R (dropT ds k) (dropT xs k)
  | [], xs, h => by rw [show xs = [] from h]; rfl
  | (k', d') :: ds, xs, h => by
    obtain ⟨x', ys, rfl, h1, h2⟩ := h
    unfold dropT
    rw [List.filter_cons, List.filter_cons]
    by_cases e : k' = k
    · rw [if_neg (by simpa using e), if_neg (by simpa using e)]; exact PT.drop k h2
    · rw [if_pos (by simpa using e), if_pos (by simpa using e)]; exact ⟨x', _, rfl, h1, PT.drop k h2⟩
theorem PT.get (k : κ) : ∀ {ds : List (κ × α)} {xs : List (κ × β)}, PT R ds xs → (getT ds k = none → getT xs k = none) ∧ ∀ d, getT ds k = some d → ∃ x, getT xs k = some x ∧ R d x
  | [], xs, h => by rw [show xs = [] from h]; exact ⟨fun _ => rfl, fun d q => by cases q⟩
  | (k', d') :: ds, xs, h => by
    obtain ⟨x', ys, rfl, h1, h2⟩ := h
    by_cases e : k' = k
    · have e1 : getT ((k', d') :: ds) k = some d' := by simp [getT, List.find?_cons, e]
      have e2 : getT ((k', x') :: ys) k = some x' := by simp [getT, List.find?_cons, e]
      rw [e1, e2]
      refine ⟨fun q => (by cases q), fun d q => ?_⟩
      cases q
      exact ⟨x', rfl, h1⟩
    · have e1 : getT ((k', d') :: ds) k = getT ds k := by simp [getT, List.find?_cons, e]
      have e2 : getT ((k', x') :: ys) k = getT ys k := by simp [getT, List.find?_cons, e]
      rw [e1, e2]
      exact PT.get k h2
theorem PT.len : ∀ {ds : List (κ × α)} {xs : List (κ × β)}, PT R ds xs → xs.length = ds.length
  | [], xs, h => by rw [show xs = [] from h]; rfl
  | (k', d') :: ds, xs, h => by
    obtain ⟨x', ys, rfl, h1, h2⟩ := h
    rw [List.length_cons, List.length_cons, PT.len h2]
theorem PT.at : ∀ {ds : List (κ × α)} {xs : List (κ × β)}, PT R ds xs → ∀ {i : Nat} {p : κ × α}, ds[i]? = some p → ∃ x, xs[i]? = some (p.1, x) ∧ R p.2 x
  | [], xs, h, i, p, e => by simp at e
  | (k', d') :: ds, xs, h, 0, p, e => by
    obtain ⟨x', ys, rfl, h1, h2⟩ := h
    cases e
    exact ⟨x', rfl, h1⟩
  | (k', d') :: ds, xs, h, i + 1, p, e => by
    obtain ⟨x', ys, rfl, h1, h2⟩ := h
    exact PT.at h2 (i := i) (by simpa using e)
end
theorem rpt_pt {K : PySem.W.Frag} {F : Hp} : ∀ {ds : List (List Key × D)} {xs : List (List Key × V)}, RpT K F ds xs ↔ PT (Rp K F) ds xs
  | [], xs => Iff.rfl
  | (k, d) :: ds, xs => ⟨fun ⟨x, ys, e, h1, h2⟩ => ⟨x, ys, e, h1, rpt_pt.mp h2⟩, fun ⟨x, ys, e, h1, h2⟩ => ⟨x, ys, e, h1, rpt_pt.mpr h2⟩⟩
section
variable {K : PySem.W.Frag} {B F F0 : Hp} {ro : Ro} {ka k1 k2 k3 kr : Cells} {ta : List (V × W)} {sg : L2.St} {H H' : Hp} {te tf tg tk tv : TE} {tr : TA} {tt tu : TT} {w x y z : W} {n m : Nd} {C dx a : Addr} {b : Bool} {P : L2.St → Hp → Prop} {De : Ends} {t u : TS} {E : XK}
/-! ### a dict that is the def's own, locked while it is walked -/
theorem En.cellAt (e : En K B F0 ro ka ta sg H) {j : Nat} (hj : ka[j]? = some (a, n)) : ∃ F, Gr B F0 F ∧ EnF K B F ro ka ta sg H ∧ NdOk K F H a n := let ⟨F, g, q⟩ := e; ⟨F, g, q, (q.ce _ (List.mem_of_getElem? hj)).2.2⟩
theorem rpl_strs {F : Hp} : ∀ {ss : List Str} {vs : List V}, RpL K F (stD ss) vs → vs = ss.map V.str
  | [], vs, h => h
  | s :: ss, vs, h => by
    obtain ⟨x, ys, rfl, h1, h2⟩ := h
    rw [rpl_strs h2, show x = V.str s from h1]
    rfl
end
end DL

/-! DW: data of any depth: in, < (own work). -/
namespace DL
open PySem L2 PySem.W PySem.SeqAt
mutual
def pdD : D → PyData
  | .bl b => .bool b | .int i => .int i | .str s => .str s
  | .tup ds => .tuple (pdL ds) | .lst ds => .list (pdL ds)
  | _ => .none
def pdL : List D → List PyData
  | [] => []
  | d :: ds => pdD d :: pdL ds
end
section
variable {X : Cx} {pins : List (Addr × Obj)} {sg : L2.St} {H G : Hp} {s : Shared}
end
/-- values of α as data -/
structure Enc (α : Type) [DecidableEq α] [Datum α] (f : α → D) : Prop where
  pd : ∀ a, pdD (f a) = Datum.toD a
  pl : ∀ a, DL.pl 60 (f a) = true
section
variable {K : PySem.W.Frag} {B F F0 : Hp} {ro : Ro} {ka k1 k2 k3 kr : Cells} {ta : List (V × W)} {sg : L2.St} {H H' : Hp} {te tf tg : TE} {w x y z : W}
variable {α : Type} [DecidableEq α]
end

end DL

/-! DX: a dict comprehension stored in a local name on its own line (own work over the hand layer's dc_core). -/
namespace DL
open PySem PySem.Spec PyProof.Rows L2
section
variable {X : Cx} {i : Nat} {y : Str} {py pos spos : Pos} {kx vx tg iter : Expr} {ifs : List Expr} {scope : Scope} {own : List (Str × Nat)} {wi : TI} {g : TG} {tt : TT} {tk tv : TE}
end
end DL

/-! DY: != of two tuples whose items are equal, some by an own == (own work; the equality of the items is the hand layer's EqG). -/
namespace DL
open PySem L2 PySem.SeqAt
section
variable {prog : Program} {w : World}
/-- pair by pair the == says yes, whatever objects it makes on the way; then fin holds -/
def Goes (prog : Program) (w : World) (A : Around) (E : Value → Shared → Prop) (fin : Shared → Prop) : List (Value × Value) → Shared → Prop
  | [], s => fin s
  | p :: r, s => wpAny (model prog w) A (eqBool p.1 p.2) (fun yes s1 => yes = true ∧ Goes prog w A E fin r s1) E s
end
section
variable {X : Cx} {n : Nat} {D : Eqv}
end
end DL
namespace DL
open PySem L2 PySem.W
section
variable {K : PySem.W.Frag} {B F F0 : Hp} {ro : Ro} {ka k1 k2 : Cells} {ta : List (V × W)} {sg : L2.St} {H H' : Hp} {te tf : TE} {C : Addr} {Cc : Ct}
theorem En.ext (e : En K B F0 ro ka ta sg H) (x : L2.Ext H H') : En K B F0 ro ka ta sg H' := by
  obtain ⟨F, g, q⟩ := e
  refine ⟨F, g, q.nz, q.fz.sub x, fun a o h => x _ _ (q.fr _ _ h), q.nd, fun p hp => ?_, q.ln, q.sl, q.tm⟩
  obtain ⟨h1, h2, h3⟩ := q.ce p hp
  refine ⟨h1, h2, ?_⟩
  obtain ⟨a, n⟩ := p
  cases n with
  | lst ds => obtain ⟨xs, e, r⟩ := h3; exact ⟨xs, x _ _ e, r⟩
  | dic ds => obtain ⟨xs, e, r⟩ := h3; exact ⟨xs, x _ _ e, r⟩
  | dit ds => obtain ⟨xs, e, r⟩ := h3; exact ⟨xs, x _ _ e, r⟩
  | ldic o xs ds => obtain ⟨e, r⟩ := h3; exact ⟨x _ _ e, r⟩
  | ins C ds => obtain ⟨dx, xs, e, r⟩ := h3; exact ⟨dx, xs, x _ _ e, r⟩
  | xd ds => obtain ⟨xs, e, r⟩ := h3; exact ⟨xs, x _ _ e, r⟩
  | din w ds => obtain ⟨xs, e, r⟩ := h3; exact ⟨xs, x _ _ e, r⟩
end
end DL

/-! DZ: evaluation by a relation (own work). -/
namespace DL
open PySem L2 PySem.W
/-- te ends with some value and cells of which P tells -/
def EvR (K : PySem.W.Frag) (te : TE) (ro : Ro) (ka : Cells) (P : W → Cells → Prop) : Prop := ∀ B F0 ta sg H (Q : VK), En K B F0 ro ka ta sg H → (∀ w k v H', P w k → En K B F0 ro k ((v, w) :: ta) sg H' → Q v H') → te sg H Q
def RvR (K : PySem.W.Frag) (r : R2) (ka : Cells) (x y : W) (P : W → Cells → Prop) : Prop := ∀ B F0 ro ta sg H u v (Q : VK), En K B F0 ro ka ta sg H → (u, x) ∈ ta → (v, y) ∈ ta → (∀ w k t H', P w k → En K B F0 ro k ((t, w) :: ta) sg H' → Q t H') → r u v H Q
section
variable {K : PySem.W.Frag} {B F F0 : Hp} {ro : Ro} {ka k1 k2 k3 kr : Cells} {ta : List (V × W)} {sg : L2.St} {H H' : Hp} {te tf tg : TE} {tr : TA} {w x y z : W} {n : Nd} {P P2 : W → Cells → Prop} {De : Ends} {u : TS} {E : XK} {r : R2}
theorem EvD.toR (h : EvD K te ro ka w k1) : EvR K te ro ka (fun w' k => w' = w ∧ k = k1) := fun B F0 ta sg H Q e q => h B F0 ta sg H Q e fun v H' e' => q w k1 v H' ⟨rfl, rfl⟩ e'
theorem En.tmA (e : En K B F0 ro ka ta sg H) (a : Addr) : En K B F0 ro ka ((.ref a, .val (.adr a)) :: ta) sg H := e.push_imm fun _ => rfl
theorem EvN.toR (h : EvN K te ro ka n k1) : EvR K te ro ka (fun w' k => ∃ a, w' = .val (.adr a) ∧ k = k1 ++ [(a, n)]) := fun B F0 ta sg H Q e q => h B F0 ta sg H Q e fun a H' e' => q _ _ _ H' ⟨a, rfl, rfl⟩ (e'.tmA a)
theorem EvR.imp (h : EvR K te ro ka P) (i : ∀ w k, P w k → P2 w k) : EvR K te ro ka P2 := fun B F0 ta sg H Q e q => h B F0 ta sg H Q e fun w k v H' p => q w k v H' (i w k p)
theorem RvD.toR (h : RvD K r ka x y z) : RvR K r ka x y (fun w' k => w' = z ∧ k = ka) := fun B F0 ro ta sg H u v Q e h1 h2 q => h B F0 ro ta sg H u v Q e h1 h2 fun t H' e' => q z ka t H' ⟨rfl, rfl⟩ e'
theorem RvN.toR (h : RvN K r ka x y n) : RvR K r ka x y (fun w' k => ∃ a, w' = .val (.adr a) ∧ k = ka ++ [(a, n)]) := fun B F0 ro ta sg H u v Q e h1 h2 q => h B F0 ro ta sg H u v Q e h1 h2 fun a H' e' => q _ _ _ H' ⟨a, rfl, rfl⟩ (e'.tmA a)
theorem RvR.imp (h : RvR K r ka x y P) (i : ∀ w k, P w k → P2 w k) : RvR K r ka x y P2 := fun B F0 ro ta sg H u v Q e h1 h2 q => h B F0 ro ta sg H u v Q e h1 h2 fun w k t H' p => q w k t H' (i w k p)
/-- a call whose end a word tells -/
theorem evr_call {Cc : Ct} {ws : List W} {out : Oc} (kr : Cells) (ha : EvA K tr ro ka ws (k1 ++ kr)) (hC : Cc ws k1 out) (ho : ∀ o k, out o k → ∃ d, o = .ret d) : EvR K (tCall (spC K Cc) [] E tr) ro ka (fun w k => ∃ d k2, out (.ret d) k2 ∧ w = .val d ∧ k = k2 ++ kr) := fun B F0 ta sg H Q e q =>
  ha B F0 ta sg H _ e fun vs H1 hl e1 => by
    rw [List.append_nil]
    exact sp_rel e1 hl hC ho fun d k2 v H' o e2 => q _ _ v H' ⟨d, k2, o, rfl, rfl⟩ e2
theorem EvR.op (h : EvR K te ro ka P) (h2 : ∀ w k, P w k → ∃ y k2, EvD K tf ro k y k2 ∧ RvR K r k2 w y P2) : EvR K (tOp r te tf) ro ka P2 := fun B F0 ta sg H Q e q =>
  h B F0 ta sg H _ e fun w k v H1 p e1 => by
    obtain ⟨y, k2, hb, hr⟩ := h2 w k p
    exact hb B F0 _ sg H1 _ e1 fun v2 H2 e2 => hr B F0 ro _ sg H2 v v2 Q e2 (List.mem_cons_of_mem _ List.mem_cons_self) List.mem_cons_self fun w3 k3 t H3 p3 e3 => q w3 k3 t H3 p3 (e3.held fun z hz => by
      rcases List.mem_cons.mp hz with rfl | hz
      · exact List.mem_cons_self
      · exact List.mem_cons_of_mem _ (List.mem_cons_of_mem _ (List.mem_cons_of_mem _ hz)))
theorem g_asgR {i : Nat} (h : EvR K te ro ka P) (k : ∀ w k1, P w k1 → Gp K B F0 ta De.nx (ro.set i (some w)) k1) : Gp K B F0 ta (tAsg te (gName i) De) ro ka := fun sg H e => h B F0 ta sg H _ e fun w k1 v H1 p e1 => k w k1 p _ _ (e1.set i)
theorem q_asgR {i : Nat} (h : EvR K te ro ka P) (k : ∀ w k1, P w k1 → Gp K B F0 ta (u De) (ro.set i (some w)) k1) : Gp K B F0 ta (tSeq (tAsg te (gName i)) u De) ro ka := g_asgR (De := { De with nx := u De }) h k

/-! ### methods, min -/
theorem evr_meth {Cc : Ct} {ws : List W} {out : Oc} {C : Addr} {m : Str} {fs : List (Str × D)} {b : Bool} (kr : Cells) (h : EvD K te ro ka w k1) (l : Io k1 w C fs b) (hm : fs.lookup m = none) (ha : EvA K tr ro k1 ws (k2 ++ kr)) (hC : Cc (w :: ws) k2 out) (ho : ∀ o k, out o k → ∃ d, o = .ret d) : EvR K (tMeth C m (spC K Cc) [] E te tr) ro ka (fun w' k => ∃ d k3, out (.ret d) k3 ∧ w' = .val d ∧ k = k3 ++ kr) := fun B F0 ta sg H Q e q =>
  h B F0 ta sg H _ e fun v H1 e1 => by
    obtain ⟨F, g, ef⟩ := id e1
    obtain ⟨a, dx, xs, rfl, ha1, rx⟩ := l.get ef (ef.tm _ List.mem_cons_self)
    refine ⟨a, dx, xs, rfl, ha1, rpf_none rx hm, ha B F0 _ sg H1 _ e1 fun vs H2 hl e2 => ?_⟩
    rw [List.append_nil]
    refine sp_rel (ws := w :: ws) (vs := .ref a :: vs) (kr := kr) (ta := ta) (e2.held fun p hp => ?_) (by rw [List.length_cons, List.length_cons, hl]) hC ho fun d k3 v3 H' o e3 => q _ _ v3 H' ⟨d, k3, o, rfl, rfl⟩ e3
    have hp' : p ∈ (V.ref a, w) :: (vs.zip ws ++ ta) := hp
    rcases List.mem_cons.mp hp' with rfl | hp
    · exact List.mem_append_right _ List.mem_cons_self
    · rcases List.mem_append.mp hp with hp | hp
      · exact List.mem_append_left _ hp
      · exact List.mem_append_right _ (List.mem_cons_of_mem _ hp)
theorem EvR.d (h : EvR K te ro ka P) (hP : ∀ w' k, P w' k → w' = w ∧ k = k1) : EvD K te ro ka w k1 := fun B F0 ta sg H Q e q => h B F0 ta sg H Q e fun w' k v H' p e' => by
  obtain ⟨rfl, rfl⟩ := hP w' k p
  exact q v H' e'
/-- a method that works on no cells -/
theorem ev_methP {Cc : Ct} {ws : List W} {C : Addr} {m : Str} {fs : List (Str × D)} {b : Bool} {d : D} (h : EvD K te ro ka w k1) (l : Io k1 w C fs b) (hm : fs.lookup m = none) (ha : EvA K tr ro k1 ws k2) (hC : Cc (w :: ws) [] (Rt d [])) : EvD K (tMeth C m (spC K Cc) [] E te tr) ro ka (.val d) k2 :=
  (evr_meth (k2 := []) k2 h l hm ha hC fun o k ho => ⟨d, ho.1⟩).d fun w' k ⟨d', k3, ho, e1, e2⟩ => by
    obtain ⟨h1, h2⟩ := ho
    cases h1
    exact ⟨e1, by rw [e2, h2]; rfl⟩
theorem ev_mulV {i j : Int} (h : EvD K te ro ka (.val (.int i)) k1) (h2 : EvD K tf ro k1 (.val (.int j)) k2) (c : IntMulOk i j) : EvD K (tOp (rMulV K) te tf) ro ka (.val (.int (i * j))) k2 := ev_op h h2 (rvd_l (rvd_l (rv_I c fun _ => rfl)))
theorem inV_strs (s : Str) : ∀ ss : List Str, inV (.str s) (ss.map V.str) = decide (s ∈ ss)
  | [] => rfl
  | t :: ss => by
    show ((t == s) || inV (.str s) (ss.map V.str)) = _
    rw [inV_strs s ss, Bool.eq_iff_iff, Bool.or_eq_true, decide_eq_true_eq, decide_eq_true_eq, List.mem_cons, beq_iff_eq]
    exact ⟨fun h => h.elim (fun q => .inl q.symm) .inr, fun h => h.elim (fun q => .inl q.symm) .inr⟩
theorem all_flat : ∀ ss : List Str, (ss.map V.str).all flatV = true
  | [] => rfl
  | t :: ss => by
    rw [List.map_cons, List.all_cons, all_flat ss]
    rfl
theorem rv_inL {neg tt b : Bool} {s : Str} {ss : List Str} (l : Lk ka y tt (stD ss) b) : RvD K (rIn K neg) ka (.val (.str s)) y (.val (.bl (if neg then !decide (s ∈ ss) else decide (s ∈ ss)))) := fun B F0 ro ta sg H u v Q e h1 h2 q => by
  obtain ⟨F, g, ef⟩ := id e
  have hu := e.tm_str h1
  subst hu
  obtain ⟨a, xs, rfl, s1, r1⟩ := l.get ef (ef.tm _ h2)
  have ex := rpl_strs r1
  subst ex
  refine ⟨a, ss.map V.str, rfl, s1.sq, rfl, all_flat ss, ?_⟩
  rw [inV_strs]
  exact q _ _ (e.push_imm fun _ => rfl)
theorem ev_inL {tt b : Bool} {s : Str} {ss : List Str} (h : EvD K te ro ka (.val (.str s)) k1) (h2 : EvD K tf ro k1 y k2) (l : Lk k2 y tt (stD ss) b) : EvD K (tOp (rInU K) te tf) ro ka (.val (.bl (decide (s ∈ ss)))) k2 := ev_op h h2 (rvd_r (rv_inL (neg := false) l))
theorem ev_niL {tt b : Bool} {s : Str} {ss : List Str} (h : EvD K te ro ka (.val (.str s)) k1) (h2 : EvD K tf ro k1 y k2) (l : Lk k2 y tt (stD ss) b) : EvD K (tOp (rNiU K) te tf) ro ka (.val (.bl (!decide (s ∈ ss)))) k2 := ev_op h h2 (rvd_r (rv_inL (neg := true) l))
theorem ei_map {α : Type} {ts : List α} {f : α → D} (h : EvD K te ro ka (.val (.lst (ts.map f))) k1) : EvI K (iSeq K te) ro ka (ts.map fun t => W.val (f t)) (fun _ => True) k1 := by
  have := ei_seq h .vl
  have e : (ts.map f).map (part false) = ts.map fun t => W.val (f t) := by rw [List.map_map]; rfl
  rw [e] at this
  exact this
theorem ei_strs {ss : List Str} (h : EvD K te ro ka (.val (.lst (stD ss))) k1) : EvI K (iSeq K te) ro ka (ss.map fun s => W.val (.str s)) (fun _ => True) k1 := by
  have := ei_seq h .vl
  unfold stD at this
  rw [List.map_map] at this
  exact this

/-! ### targets -/
/-- the target g takes a value of w: the slots behind it -/
def AsT (K : PySem.W.Frag) (g : TG) (w : W) (ro ro' : Ro) : Prop := ∀ B F0 ka ta sg H v (Q : L2.St → Hp → Prop), En K B F0 ro ka ta sg H → (v, w) ∈ ta → (∀ sg', En K B F0 ro' ka ta sg' H → Q sg' H) → g v sg H Q
def AsL (K : PySem.W.Frag) (t : TGs) (ws : List W) (ro ro' : Ro) : Prop := ∀ B F0 ka ta sg H vs (Q : L2.St → Hp → Prop), En K B F0 ro ka ta sg H → vs.length = ws.length → (∀ p ∈ vs.zip ws, p ∈ ta) → (∀ sg', En K B F0 ro' ka ta sg' H → Q sg' H) → t vs sg H Q
variable {ro' ro2 : Ro} {g : TG} {t : TGs} {ws : List W}
theorem at_n {i : Nat} : AsT K (gName i) w ro (ro.set i (some w)) := fun B F0 ka ta sg H v Q ⟨F, g, e⟩ h q => q _ ⟨F, g, e.set (e.tm _ h) i⟩
theorem al_nil : AsL K gNil [] ro ro := fun B F0 ka ta sg H vs Q e hl h q => ⟨List.eq_nil_of_length_eq_zero hl, q _ e⟩
theorem al_cons (h1 : AsT K g w ro ro2) (h2 : AsL K t ws ro2 ro') : AsL K (gCons g t) (w :: ws) ro ro' := fun B F0 ka ta sg H vs Q e hl h q => by
  cases vs with
  | nil => cases hl
  | cons v r => exact ⟨v, r, rfl, h1 B F0 ka ta sg H v _ e (h _ List.mem_cons_self) fun sg1 e1 => h2 B F0 ka ta sg1 H r Q e1 (by simpa using hl) (fun p hp => h p (List.mem_cons_of_mem _ hp)) q⟩
theorem at_tup {ds : List D} {m : Nat} (hm : ds.length = m) (h : AsL K t (ds.map W.val) ro ro') : AsT K (gTup K m t) (.val (.tup ds)) ro ro' := fun B F0 ka ta sg H v Q e hv q => by
  obtain ⟨F, gr, ef⟩ := id e
  obtain ⟨a, xs, rfl, s1, r1⟩ := Lk.vt.get ef (ef.tm _ hv)
  refine ⟨a, xs, rfl, s1, by rw [rpl_len r1, hm], h B F0 ka (xs.zip (ds.map W.val) ++ ta) sg H xs Q ?_ (by rw [List.length_map, rpl_len r1]) (fun p hp => List.mem_append_left _ hp) fun sg' e' => q sg' (e'.held fun p hp => List.mem_append_right _ hp)⟩
  refine ⟨F, gr, ⟨ef.nz, ef.fz, ef.fr, ef.nd, ef.ce, ef.ln, ef.sl, fun p hp => ?_⟩⟩
  rcases List.mem_append.mp hp with hp | hp
  · have : ∀ (ds : List D) (xs : List V), RpL K F ds xs → ∀ p ∈ xs.zip (ds.map W.val), WOk K B F p.1 p.2 := by
      intro ds
      induction ds with
      | nil => intro xs h p hp; rw [show xs = [] from h] at hp; simp at hp
      | cons d ds ih =>
        intro xs h p hp
        obtain ⟨x, ys, rfl, h1, h2⟩ := h
        rcases List.mem_cons.mp hp with rfl | hp
        · exact h1
        · exact ih ys h2 p hp
    exact this ds xs r1 p hp
  · exact ef.tm p hp
theorem at_t2 {d1 d2 : D} {i j : Nat} : AsT K (gTup K 2 (gCons (gName i) (gCons (gName j) gNil))) (.val (.tup [d1, d2])) ro ((ro.set i (some (.val d1))).set j (some (.val d2))) := at_tup rfl (al_cons at_n (al_cons at_n al_nil))
theorem g_asgT (h : EvD K te ro ka w k1) (a : AsT K g w ro ro') (k : Gp K B F0 ta De.nx ro' k1) : Gp K B F0 ta (tAsg te g De) ro ka := fun sg H e => h B F0 ta sg H _ e fun v H1 e1 => a B F0 k1 _ sg H1 v _ e1 List.mem_cons_self fun sg' e' => k _ _ e'.pop
theorem q_asgT (h : EvD K te ro ka w k1) (a : AsT K g w ro ro') (k : Gp K B F0 ta (u De) ro' k1) : Gp K B F0 ta (tSeq (tAsg te g) u De) ro ka := g_asgT (De := { De with nx := u De }) h a k
/-- a loop whose target is of any form -/
theorem g_forT {wi : TI} {C : Cells → Prop} {tb : TS} (h : EvI K wi ro ka ws C k1) (Inv : Nat → Ro → Cells → Prop) (h0 : Inv 0 ro k1) (hC : ∀ i ro2 ka2, Inv i ro2 ka2 → C ka2)
    (hs : ∀ i w ro2 ka2 ta', ws[i]? = some w → Inv i ro2 ka2 → ∃ ro3, AsT K g w ro2 ro3 ∧ Gp K B F0 ta' (tb { De with nx := Jp K B F0 ta' (Inv (i + 1)), ct := Jp K B F0 ta' (Inv (i + 1)), bk := De.nx }) ro3 ka2)
    (hd : ∀ ro2 ka2 ta', Inv ws.length ro2 ka2 → (∀ p ∈ ta, p ∈ ta') → Gp K B F0 ta' De.nx ro2 ka2) : Gp K B F0 ta (tFor wi g tb De) ro ka :=
  g_for h Inv h0 hC (fun i w ro2 ka2 hw inv ta' sg H e x ex => by
    obtain ⟨ro3, a, gp⟩ := hs i w ro2 ka2 ta' hw inv
    exact a B F0 ka2 _ sg H x _ ex List.mem_cons_self fun sg' e' => gp _ _ e'.pop) hd
theorem q_forT {wi : TI} {C : Cells → Prop} {tb : TS} (h : EvI K wi ro ka ws C k1) (Inv : Nat → Ro → Cells → Prop) (h0 : Inv 0 ro k1) (hC : ∀ i ro2 ka2, Inv i ro2 ka2 → C ka2)
    (hs : ∀ i w ro2 ka2 ta', ws[i]? = some w → Inv i ro2 ka2 → ∃ ro3, AsT K g w ro2 ro3 ∧ Gp K B F0 ta' (tb { De with nx := Jp K B F0 ta' (Inv (i + 1)), ct := Jp K B F0 ta' (Inv (i + 1)), bk := u De }) ro3 ka2)
    (hd : ∀ ro2 ka2 ta', Inv ws.length ro2 ka2 → (∀ p ∈ ta, p ∈ ta') → Gp K B F0 ta' (u De) ro2 ka2) : Gp K B F0 ta (tSeq (tFor wi g tb) u De) ro ka := g_forT (De := { De with nx := u De }) h Inv h0 hC hs hd
end
end DL

/-! ER: a tuple read backwards (own work). -/
namespace DL
open PySem L2 PySem.W PyProof.Rows

section
variable {prog : Program} {w : World} {A : Around} {E : Value → Shared → Prop} {s : Shared}
end
section
variable {X : Cx} {e : Expr} {te : TE} {n : Nat} {pa pb pc pd : Pos}
end
end DL

/-! EA: dicts read and written, walked while frozen, objects frozen (own work). -/
namespace DL
open PySem L2 PySem.W

/-- w is a dict of ds; b: viewed -/
inductive Dk (ka : Cells) : W → List (Key × D) → Bool → Prop where
  | v {ds : List (Key × D)} : Dk ka (.val (.dic ds)) ds false
  | w {ds : List (Key × D)} : Dk ka (.vw (.dic ds)) ds true
  | ce {a : Addr} {ds : List (Key × D)} (j : Nat) (h : ka[j]? = some (a, .dic ds)) : Dk ka (.val (.adr a)) ds false
  | cl {a : Addr} {o : Obj} {xs : List (Key × V)} {ds : List (Key × D)} (j : Nat) (h : ka[j]? = some (a, .ldic o xs ds)) : Dk ka (.val (.adr a)) ds false
section
variable {K : PySem.W.Frag} {B B' F F' F0 : Hp} {ro ro' : Ro} {ka k1 k2 k3 kr : Cells} {ta : List (V × W)} {sg sg' : L2.St} {H H' : Hp} {te tf tg td ty tk tv : TE} {tr : TA} {tt tu : TT} {w x y z : W} {n m : Nd} {C dx a : Addr} {b : Bool} {P : L2.St → Hp → Prop} {De : Ends} {t u : TS} {E : XK} {ds : List (Key × D)}
theorem Dk.get {v : V} (l : Dk ka w ds b) (e : EnF K B F ro ka ta sg H) (h : WOk K B F v w) : ∃ a xs, v = .ref a ∧ Rd H a (.dK xs) ∧ RpK K (if b then uni B F else F) ds xs := by
  cases l with
  | v =>
    obtain ⟨a, xs, rfl, h1, h2⟩ := h
    exact ⟨a, xs, rfl, e.fz.rd e.nz h1, h2⟩
  | w =>
    obtain ⟨a, xs, rfl, h1, h2⟩ := h
    exact ⟨a, xs, rfl, (uni_exz e.fz e.fr).rd (uni_nz e.nz) h1, h2⟩
  | ce j hj =>
    obtain rfl : v = .ref _ := h
    obtain ⟨_, _, xs, h1, h2⟩ := e.ce _ (List.mem_of_getElem? hj)
    exact ⟨_, xs, rfl, .inl h1, h2⟩
  | cl j hj =>
    obtain rfl : v = .ref _ := h
    obtain ⟨_, _, h1, h2⟩ := e.ce _ (List.mem_of_getElem? hj)
    exact ⟨_, _, rfl, .inr ⟨_, h1⟩, h2⟩
theorem En.dk {v : V} (l : Dk ka w ds b) (e : En K B F0 ro ka ta sg H) (h : (v, w) ∈ ta) : ∃ F a xs, Gr B F0 F ∧ EnF K B F ro ka ta sg H ∧ v = .ref a ∧ Rd H a (.dK xs) ∧ RpK K (if b then uni B F else F) ds xs := by
  obtain ⟨F, g, ef⟩ := e
  obtain ⟨a, xs, h1, h2, h3⟩ := l.get ef (ef.tm _ h)
  exact ⟨F, a, xs, g, ef, h1, h2, h3⟩
end
end DL

/-! EB: loops and comprehensions over frozen dicts (own work). -/
namespace DL
open PySem L2 PySem.W
section
variable {K : PySem.W.Frag} {B F F0 : Hp} {ro : Ro} {ka k1 k2 k3 kr : Cells} {ta : List (V × W)} {sg : L2.St} {H H' : Hp} {te tf tg tk tv : TE} {tr : TA} {tt tu : TT} {w x y z : W} {n m : Nd} {C dx a : Addr} {b : Bool} {P : L2.St → Hp → Prop} {De : Ends} {t u : TS} {E : XK}
end
end DL

/-! EC: defaults, objects with cells in their fields, more of dicts (own work). -/
namespace DL
open PySem L2 PySem.W

/-! ### defaults -/
/-- the def at f keeps C, its defaults written out; dvs: its defaults -/
def FnD (P : Program) (w : World) (K : PySem.W.Frag) (mg : Str → Option Value) (base : Heap) (k : Nat) (f : Addr) (ps : List Str) (dvs : List V) (C : Ct) : Prop :=
  ∃ fd, FnOk P w K mg base (L2.CX P w) k f fd ps (spC K C) ∧ ∃ ds, Vals dvs ds ∧ Binds K fd ps ds
section
variable {P : Program} {w : World} {K : PySem.W.Frag} {mg : Str → Option Value} {base : Heap} {k j : Nat} {f : Addr} {ps : List Str} {dvs : List V} {C : Ct}
noncomputable def FnD.fd (F : FnD P w K mg base k f ps dvs C) : FuncData := Classical.choose F
theorem FnD.ok (F : FnD P w K mg base k f ps dvs C) : FnOk P w K mg base (L2.CX P w) k f F.fd ps (spC K C) := (Classical.choose_spec F).1
noncomputable def FnD.ds (F : FnD P w K mg base k f ps dvs C) : List Value := Classical.choose (Classical.choose_spec F).2
theorem FnD.dv (F : FnD P w K mg base k f ps dvs C) : Vals dvs F.ds := (Classical.choose_spec (Classical.choose_spec F).2).1
theorem FnD.bn (F : FnD P w K mg base k f ps dvs C) : Binds K F.fd ps F.ds := (Classical.choose_spec (Classical.choose_spec F).2).2
theorem FnD.up (F : FnD P w K mg base j f ps dvs C) (h : j ≤ k) : FnD P w K mg base k f ps dvs C := let ⟨fd, a, b⟩ := F; ⟨fd, a.mono h, b⟩
end
/-- what stands for the defaults -/
def DvOk (K : PySem.W.Frag) (dvs : List V) (wd : List W) : Prop := dvs.length = wd.length ∧ ∀ B F p, p ∈ dvs.zip wd → WOk K B F p.1 p.2
section
variable {K : PySem.W.Frag} {B B' F F' F0 : Hp} {ro ro' : Ro} {ka k1 k2 k3 kr : Cells} {ta : List (V × W)} {sg sg' : L2.St} {H H' : Hp} {te tf tg td ty tk tv : TE} {tr : TA} {tt tu : TT} {w x y z : W} {n m : Nd} {C dx a o d : Addr} {b : Bool} {P : W → Cells → Prop} {De : Ends} {u : TS}
theorem En.more (e : En K B F0 ro ka ta sg H) {dvs : List V} {wd : List W} (h : DvOk K dvs wd) : En K B F0 ro ka (dvs.zip wd ++ ta) sg H := by
  obtain ⟨F, g, e⟩ := e
  refine ⟨F, g, { e with tm := fun p hp => ?_ }⟩
  rcases List.mem_append.mp hp with q | q
  · exact h.2 B F p q
  · exact e.tm p q
end

section
variable {K : PySem.W.Frag} {B B' F F' F0 : Hp} {ro ro' : Ro} {ka k1 k2 k3 kr : Cells} {ta : List (V × W)} {sg sg' : L2.St} {H H' : Hp} {te tf tg td ty tk tv : TE} {tr : TA} {tt tu : TT} {w x y z : W} {n m : Nd} {C dx a o d : Addr} {b : Bool} {P : L2.St → Hp → Prop} {De : Ends} {u : TS}
end
end DL
namespace DL
open PySem L2 PySem.W
section
variable {P : Program} {w : World} {K : PySem.W.Frag} {mg : Str → Option Value} {base : Heap} {f : Addr} {fd : FuncData} {x qual : Str} {params : Arguments} {body : List Stmt} {scope : Scope} {ps N : List Str} {k j : Nat} {C : Ct} {dvs : List V}
end
end DL
namespace DL
open PySem L2 PySem.W
theorem hu1 {k : Nat} {A : Around} (r : Room k A) : A.units + 1 < cLine := by have := r.units; omega
end DL

namespace DL
open PySem L2 PySem.W
section
variable {K : PySem.W.Frag} {B F F0 : Hp} {ro : Ro} {ka k1 k2 : Cells} {ta : List (V × W)} {sg : L2.St} {H : Hp} {te tf : TE} {w : W} {n : Nd}
/-! ### is None -/
def isNonD : D → Bool
  | .non => true
  | _ => false
theorem isNonD_of {F : Hp} {d : D} {v : V} (h : Rp K F d v) : decide (v = .non) = isNonD d := by
  cases d with
  | non => rw [show v = .non from h]; rfl
  | bl b => rw [show v = .bl b from h]; rfl
  | int i => rw [show v = .int i from h]; rfl
  | str s => rw [show v = .str s from h]; rfl
  | ty n => rw [show v = .ty n from h]; rfl
  | adr a => rw [show v = .ref a from h]; rfl
  | tup ds => obtain ⟨a, _, rfl, _⟩ := h; rfl
  | lst ds => obtain ⟨a, _, rfl, _⟩ := h; rfl
  | dic ds => obtain ⟨a, _, rfl, _⟩ := h; rfl
  | dit ds => obtain ⟨a, _, rfl, _⟩ := h; rfl
  | din w ds => obtain ⟨a, _, rfl, _⟩ := h; rfl
  | ins C fs => obtain ⟨a, _, _, rfl, _⟩ := h; rfl
theorem En.isN {d : D} (e : En K B F0 ro ka ta sg H) {v : V} (h : (v, w) ∈ ta) (hw : w = .val d ∨ w = .vw d) : decide (v = .non) = isNonD d := by
  obtain ⟨F, _, e⟩ := e
  have := e.tm _ h
  rcases hw with rfl | rfl
  · exact isNonD_of (F := F) this
  · exact isNonD_of (F := uni B F) this
theorem ev_isN {d : D} (h : EvD K te ro ka w k1) (hw : w = .val d ∨ w = .vw d := by exact .inl rfl) : EvD K (tOp rIsN te (tC .non)) ro ka (.val (.bl (isNonD d))) k1 := fun B F0 ta sg H Q e q => h B F0 ta sg H _ e fun v H1 e1 =>
  ⟨rfl, by rw [e1.isN List.mem_cons_self hw]; exact q _ _ (e1.pop.push_imm fun _ => rfl)⟩
theorem EvNR.toR {R : Nd → Cells → Prop} (h : EvNR K te ro ka R) : EvR K te ro ka (fun w k => ∃ a n k0, w = .val (.adr a) ∧ R n k0 ∧ k = k0 ++ [(a, n)]) := fun B F0 ta sg H Q e q =>
  h B F0 ta sg H Q e fun n k a H' r e1 => q _ _ (.ref a) H' ⟨a, n, k, rfl, r, rfl⟩ (e1.push_imm fun _ => rfl)
end
end DL

namespace DL
open PySem L2 PySem.W
theorem sqf_stD (b : Bool) (ss : List Str) : SqF b (stD ss) := .inr (List.all_eq_true.mpr fun d hd => by
  obtain ⟨s, _, rfl⟩ := List.mem_map.mp hd
  rfl)
end DL
namespace DL
open PySem L2 PySem.W
section
variable {K : PySem.W.Frag} {ro : Ro} {ka k1 k2 k3 : Cells} {te : TE} {tr : TA} {w : W} {E : XK}
end
end DL
namespace DL
open PySem L2 PySem.W
/-! ### tables with text keys -/
section
variable {β : Type} {f : β → D}
end
end DL
namespace DL
open PySem L2 PySem.W
section
variable {K : PySem.W.Frag} {ro : Ro} {ka k1 : Cells} {te tf : TE} {P : W → Cells → Prop} {R : Nd → Cells → Prop}
end
end DL
namespace DL
open PySem L2 PySem.W
section
variable {K : PySem.W.Frag} {B F0 : Hp} {ro : Ro} {ka k1 : Cells} {ta : List (V × W)} {te : TE} {w : W} {b : Bool} {R : Nd → Cells → Prop} {De : Ends} {u : TS}
/-- the texts of a list or tuple -/
theorem ei_strsL {t b : Bool} {ss : List Str} (h : EvD K te ro ka w k1) (l : Lk k1 w t (stD ss) b) : EvI K (iSeq K te) ro ka (ss.map fun s => W.val (.str s)) (Stay w (stD ss)) k1 := by
  have e : (stD ss).map (part b) = ss.map fun s => W.val (.str s) := by
    unfold stD
    rw [List.map_map]
    exact List.map_congr_left fun s _ => by cases b <;> rfl
  have := ei_seq h l
  rwa [e] at this
end
end DL
namespace DL
open PySem L2 PySem.W
section
variable {K : PySem.W.Frag} {ro : Ro} {ka k1 k2 : Cells} {ty td : TE} {P : W → Cells → Prop}
end
end DL
namespace DL
open PySem L2 PySem.W
section
variable {K : PySem.W.Frag} {ro : Ro} {ka k1 : Cells} {te tf : TE} {n : Nd} {y : W} {E : XK}
end
end DL

/-! ED: d.get(k) (own work). -/
namespace DL
open PySem L2 PySem.W
section
variable {K : PySem.W.Frag} {ro : Ro} {ka k1 k2 : Cells} {td ty : TE} {w : W} {b : Bool}
end
end DL

/-! EE: try with any number of except clauses, each with or without a name (own work). -/
namespace DL
open PySem L2 PySem.W PyProof.Rows

/-- the exception at a has come down in X; but for it the state is as σ, H tell -/
def Down (X : Cx) (pins : List (Addr × Obj)) (a : Addr) (cls : Value) (d : Option Addr) (σ : L2.St) (H : Hp) (s : Shared) : Prop :=
  ∃ (B : Heap) (s0 : Shared), L2.Inv X pins σ H s0 ∧ (∀ b o, s0.heap.get? b = some o → b ∉ frs X.stack → B.get? b = some o) ∧ s0.heap.UpToSlots s.heap ∧
    HandSPX.FlyingZ B (X.env :: X.outer) a (Zc cls d) s.heap ∧ H a = none ∧ s.os = s0.os ∧ AllBare s.gens
section
variable {X : Cx} {pins : List (Addr × Obj)} {a : Addr} {cls : Value} {d : Option Addr} {σ : L2.St} {H : Hp} {s : Shared}
theorem Down.inv (z : Down X pins a cls d σ H s) : L2.Inv X pins σ H s :=
  let ⟨_, _, I, nb, up, fl, _, os, ag⟩ := z
  I.landed nb fl.1 up os ag
theorem Down.obj (z : Down X pins a cls d σ H s) : ∃ (oe : Obj) (vs : Array Value), s.heap.get? a = some oe ∧ Zc cls d oe ∧ oe.data = .fields vs :=
  let ⟨_, _, _, _, _, fl, _⟩ := z
  let ⟨oe, vs, h1, h2, h3⟩ := fl.there
  ⟨oe, vs, h1, h2, h3⟩
/-- no frame's slots stand there -/
theorem Down.off (z : Down X pins a cls d σ H s) : a ∉ frs (X.env :: X.outer) := fun hm => by
  obtain ⟨oe, vs, h1, _, h3⟩ := z.obj
  obtain ⟨_, _, _, _, _, fl, _⟩ := z
  obtain ⟨_, o, h4, h5⟩ := fl.2.2.1.mem hm
  rw [h1] at h4
  cases h4
  exact h5 _ h3
/-- the state that an except suite finds -/
theorem Down.within (z : Down X pins a cls d σ H s) (hf : X.env.frame = some X.env.locals) : ∃ oe vs, oe.data = .fields vs ∧ Zc cls d oe ∧ s.heap.get? a = some oe ∧ L2.Inv (X.suite a ((a, oe) :: (X.pn ++ pins))) [] σ H s := by
  obtain ⟨oe, vs, h1, h2, h3⟩ := z.obj
  have off := z.off
  have na : H a = none := let ⟨_, _, _, _, _, _, na, _⟩ := z; na
  refine ⟨oe, vs, h3, h2, h1, z.inv.suite h1 h3 na (fun e => off ?_) fun hm => off ?_⟩
  · exact List.mem_filterMap.mpr ⟨X.env, List.mem_cons_self, by rw [hf, e]⟩
  · obtain ⟨e, he, q⟩ := List.mem_filterMap.mp hm
    exact List.mem_filterMap.mpr ⟨e, List.mem_cons_of_mem _ he, q⟩
theorem Down.again {M : Model} {A : Around} {E : Value → Shared → Prop} {Q : Unit → Shared → Prop} (z : Down X pins a cls d σ H s) (k : ∀ s', Down X pins a cls d σ H s' → Q () s') : wpAny M A (setFlight (.ref a) none) Q E s := by
  obtain ⟨B, s0, I, nb, up, fl, na, os, ag⟩ := z
  exact HandSPX.lands_againZ fl fun h' fl' up' => k _ ⟨B, s0, I, nb, up.trans up', fl', na, os, ag⟩
/-- no clause takes it -/
theorem Down.pass {W : WX} {Q : Flow → Shared → Prop} (z : Down X pins a cls d σ H s) (hs : X.stack = X.env :: X.outer) (hf : X.env.frame = some X.env.locals) (tk : Takes X W) (w : W cls d σ H) : wpAny (model X.prog X.w) X.A (handleBy (.ref a) X.env []) Q X.xe s := by
  obtain ⟨B, s0, I, nb, up, fl, na, os, ag⟩ := z
  obtain ⟨oe, vs, T, oT, ts, h1, h2, h3, h4, _⟩ := id fl.2.2.2
  have out : wpAny (model X.prog X.w) X.A (setFlight (.ref a) X.env.frame) (fun _ s4 => wpAny (model X.prog X.w) X.A (throw (.ref a) : Sem Flow) Q X.xe s4) X.xe s := by
    rw [hf]
    exact HandSPX.setFlight_upZ fl fun h' held up' => wpAny_throw (tk _ _ ⟨a, B, s0, pins, σ, H, cls, d, rfl, I, nb, up.trans up', .inr (.inr (hs ▸ held)), na, os, ag, w⟩)
  apply wpAny_handleBy_nil
  unfold PySem.passOn
  refine wpAny_bind (wpAny_field h1 h3 h4 ?_)
  have ne : ¬ (Value.ref T == Value.none) = true := by simp
  rw [if_neg ne]
  first
    | exact wpAny_bind (wpAny_pure (wpAny_bind out))
    | exact wpAny_bind out
end
/-- a clause: its class, the slot of its name, its suite -/
abbrev Cla := Value × Option Nat × (Addr → Value → Option Addr → TS)
/-- where a suite ends: its name is gone -/
def goneE (D : Ends) : Option Nat → Ends
  | none => D
  | some i => { nx := fun σ H => D.nx (σ.set i none) H, rt := D.rt, bk := fun σ H => D.bk (σ.set i none) H, ct := fun σ H => D.ct (σ.set i none) H }
def nameS (σ : L2.St) (a : Addr) : Option Nat → L2.St
  | none => σ
  | some i => σ.set i (some (.ref a))
/-- what one clause wishes: that its class tells whether it takes the exception; if so its suite's wish, else W -/
def oneCla (K : PySem.W.Frag) (D : Ends) (c : Cla) (W : WX) : WX := fun cls d σ H =>
  (exmOne K cls c.1 = some true ∧ ∀ a, H a = none → c.2.2 a cls d (goneE D c.2.1) (nameS σ a c.2.1) H) ∨ (exmOne K cls c.1 = some false ∧ W cls d σ H)
/-- these clauses deal with whatever W lets come down -/
def Deals (X : Cx) (D : Ends) (hds : List ExceptHandler) (W : WX) : Prop := ∀ (pins : List (Addr × Obj)) (a : Addr) (cls : Value) (d : Option Addr) (σ : L2.St) (H : Hp) (s : Shared),
  Down X pins a cls d σ H s → W cls d σ H → wpAny (model X.prog X.w) X.A (handleBy (.ref a) X.env hds) (SP X pins D) X.xe s
/-- a suite keeps its wish -/
def SuiteOk (X : Cx) (b0 : Stmt) (suite : List Stmt) (ts : Addr → Value → Option Addr → TS) : Prop :=
  ∀ (a : Addr) (oe : Obj) (cls : Value) (d : Option Addr) (pn : List (Addr × Obj)), Zc cls d oe → (∃ vs, oe.data = .fields vs) → PSs (X.suite a ((a, oe) :: pn)) (b0 :: suite) (ts a cls d)
section
variable {X : Cx} {pins : List (Addr × Obj)} {a : Addr} {cls : Value} {d : Option Addr} {σ : L2.St} {H : Hp} {s : Shared} {D : Ends} {Wout W : WX} {f : Flow}
theorem Deals.nil (hs : X.stack = X.env :: X.outer) (hf : X.env.frame = some X.env.locals) (tk : Takes X Wout) : Deals X D [] Wout := fun _ _ _ _ _ _ _ z w => z.pass hs hf tk w
/-- the end of a suite without a name, seen from outside -/
theorem SP.outward {q0 : List (Addr × Obj)} {X' : Cx} (e : SP X' q0 D f s) (k : ∀ σ1 H1, L2.Inv X' q0 σ1 H1 s → L2.Inv X pins σ1 H1 s) : SP X pins D f s := by
  rcases f with _ | _ | _ | u
  · obtain ⟨σ1, H1, J, y⟩ := e
    exact ⟨σ1, H1, k _ _ J, y⟩
  · obtain ⟨σ1, H1, J, y⟩ := e
    exact ⟨σ1, H1, k _ _ J, y⟩
  · obtain ⟨σ1, H1, J, y⟩ := e
    exact ⟨σ1, H1, k _ _ J, y⟩
  · obtain ⟨v, σ1, H1, J, y⟩ := e
    exact ⟨v, σ1, H1, k _ _ J, y⟩
/-- a clause's class, looked up where the suite will stand -/
theorem Down.class_read (z : Down X pins a cls d σ H s) (hf : X.env.frame = some X.env.locals) {x : Str} {c : Value} {p : Pos} (hc : Names X x c) {Q : Value → Shared → Prop} {E : Value → Shared → Prop} (k : Q c s) :
    wpAny (model X.prog X.w) (X.A.mark (some (.ref a))) (eval (.Name x p) X.env) Q E s := by
  obtain ⟨oe, vs, _, _, _, S⟩ := z.within hf
  obtain ⟨g, nd, m | ⟨m, v, nn⟩⟩ := hc
  · exact ld_glob (X := X.suite a ((a, oe) :: (X.pn ++ pins))) S g m k nd
  · exact ld_blt (X := X.suite a ((a, oe) :: (X.pn ++ pins))) S g m v k nn nd
/-- does the class at c take it? -/
theorem Down.asked (z : Down X pins a cls d σ H s) {c : Value} {b : Bool} (h : exmOne X.K cls c = some b) : PySem.W.Looks (model X.prog X.w) s.heap (excMatches (.ref a) c) b :=
  PySem.W.exm_one z.inv.kIn (fun A Q E s' kp q => by
    obtain ⟨oe, vs, at_, zc, _⟩ := z.obj
    exact wpAny_typeOf_ref (kp _ _ at_) (zc.1.symm ▸ q)) h
theorem Deals.plain (hf : X.env.frame = some X.env.locals) {x : Str} {c : Value} {ts : Addr → Value → Option Addr → TS} {b0 : Stmt} {suite : List Stmt} {p q : Pos} {hds : List ExceptHandler} (hc : Names X x c) (ok : SuiteOk X b0 suite ts) (rest : Deals X D hds W) :
    Deals X D (.ExceptHandler (some (.Name x p)) none (b0 :: suite) q :: hds) (oneCla X.K D (c, none, ts) W) := fun pins a cls d σ H s z w => by
  refine wpAny_handleBy_cons (codeAny_handlers_test (z.class_read hf hc ?_)) (fun e => by cases e)
  rcases w with ⟨hb, w⟩ | ⟨hb, w⟩ <;> refine (z.asked hb).here ?_
  · refine codeAny_handlers_suite (z.again fun s1 z1 => ?_)
    obtain ⟨oe, vs, dat, zc, _, S⟩ := z1.within hf
    have na : H a = none := z.elim fun _ r => r.elim fun _ r => r.2.2.2.2.1
    exact wpAny_mono ((ok a oe cls d (X.pn ++ pins) zc ⟨_, dat⟩).run [] s1 σ H D S (w a na)) (fun g s2 e => SP.outward e fun _ _ J => J.unsuite z.inv.ok) fun _ _ z => z.elim
  · exact rest pins a cls d σ H s z w
end
section
variable {X : Cx} {body : List Stmt} {h0 : ExceptHandler} {hds : List ExceptHandler} {l : List Cla} {pos : Pos} {tb : WX → TS} {Wout : WX}
end
end DL

/-! EF: what several clauses do with an exception, by data (own work). -/
namespace DL
open PySem L2 PySem.W
/-- of the clauses l the one with oi, ts takes an exception of C1 -/
inductive Hit (K : PySem.W.Frag) (C1 : Addr) : List Cla → Option Nat → (Addr → Value → Option Addr → TS) → Prop
  | here {c : Value} {oi : Option Nat} {ts : Addr → Value → Option Addr → TS} {r : List Cla} (h : exmOne K (.ref C1) c = some true) : Hit K C1 ((c, oi, ts) :: r) oi ts
  | next {c : Value} {oi oj : Option Nat} {ts us : Addr → Value → Option Addr → TS} {r : List Cla} (h : exmOne K (.ref C1) c = some false) (k : Hit K C1 r oi ts) : Hit K C1 ((c, oj, us) :: r) oi ts
section
variable {K : PySem.W.Frag} {B F0 : Hp} {ro : Ro} {ka k1 k2 k3 kr : Cells} {ta : List (V × W)} {sg : L2.St} {H : Hp} {te tf : TE} {tr : TA} {C C1 : Addr} {gs : List (Str × D)} {E : XK} {De De' : Ends} {dx : Option Addr} {l : List Cla} {oi : Option Nat} {ts : Addr → Value → Option Addr → TS} {Wout : WX} {u : TS}
/-- te ends with an error without fields -/
def EvX0 (K : PySem.W.Frag) (te : TE) (ro : Ro) (ka : Cells) (E : XK) (C1 : Addr) (k2 : Cells) : Prop := ∀ B F0 ta sg H (Q : VK), En K B F0 ro ka ta sg H → (∀ H', En K B F0 ro k2 ta sg H' → E (.ref C1) none H') → te sg H Q
theorem evx0_call {Cc : Ct} {ws : List W} {E' : XK} (ha : EvA K tr ro ka ws (k2 ++ kr)) (hC : Cc ws k2 (X0 C1 k3)) (hE : E' = E) : EvX0 K (tCall (spC K Cc) [] E' tr) ro ka E C1 (k3 ++ kr) := fun B F0 ta sg H Q e q => by
  subst hE
  refine ha B F0 ta sg H _ e fun vs H1 hl e1 => ?_
  rw [List.append_nil]
  exact sp_exc0 e1 hl hC (fun _ _ z => z) fun H' e3 => q H' e3
end
end DL

/-! EG: enumerate of lists (own work). -/
namespace DL
open PySem L2 PySem.W
section
variable {K : PySem.W.Frag} {ro : Ro} {ka k1 : Cells} {te : TE} {w : W}
theorem ei_enum {ds : List D} (h : EvD K te ro ka w k1) (l : Lk k1 w false ds false) : EvI K (iEnum K (tCons te tNil)) ro ka ((List.range ds.length).map fun i : Nat => W.val (.tup [.int (i : Int), ds.getD i .non])) (Stay w ds) k1 := fun B F0 ta sg H R e q =>
  h B F0 ta sg H _ e fun v H1 e1 => by
    have again : ∀ (a : Addr) ro2 ka2 ta2 sg2 H2, Stay w ds ka2 → (V.ref a, w) ∈ ta2 → En K B F0 ro2 ka2 ta2 sg2 H2 → ∃ F ys, EnF K B F ro2 ka2 ta2 sg2 H2 ∧ Gr B F0 F ∧ SqL K H2 a ys ∧ RpL K F ds ys := fun a ro2 ka2 ta2 sg2 H2 hs hm e2 => by
      obtain ⟨F, g, ef⟩ := e2
      obtain ⟨b, ys, eb, s2, r2⟩ := (l.mono ka2 hs).get ef (ef.tm _ hm)
      cases eb
      exact ⟨F, ys, ef, g, .inl s2, r2⟩
    obtain ⟨F, g, ef⟩ := id e1
    obtain ⟨a, xs, rfl, s1, r1⟩ := l.get ef (ef.tm _ List.mem_cons_self)
    refine ⟨a, xs, rfl, .inl s1, q _ ((.ref a, w) :: ta) H1 (fun p hp => List.mem_cons_of_mem _ hp) e1 (fun i w2 ro2 ka2 ta2 sg2 H2 hw hs hm e2 => ?_) fun i ro2 ka2 ta2 sg2 H2 hi hs hm e2 => ?_⟩
    · obtain ⟨F2, ys, ef2, g2, s2, r2⟩ := again a ro2 ka2 ta2 sg2 H2 hs (hm _ List.mem_cons_self) e2
      rw [List.getElem?_map] at hw
      obtain ⟨i', hi', rfl⟩ := Option.map_eq_some_iff.mp hw
      obtain ⟨hi1, hi2⟩ := List.getElem?_eq_some_iff.mp hi'
      rw [List.getElem_range] at hi2
      subst hi2
      rw [List.length_range] at hi1
      have hd : ds[i]? = some ds[i] := List.getElem?_eq_getElem hi1
      have hg : ds.getD i .non = ds[i] := by rw [List.getD_eq_getElem?_getD, hd]; rfl
      obtain ⟨y, hy, ry⟩ := rpl_get r2 hd
      refine ⟨⟨ys, y, s2, hy⟩, fun x H3 ⟨T, x', ex, hT, eH, hx⟩ => ?_⟩
      subst ex eH
      have h5 := hx ys s2
      rw [hy] at h5
      cases h5
      obtain ⟨e4, g4⟩ := ef2.lay (o := .tup [.int (i : Nat), y]) hT rfl
      refine ⟨_, g2.trans g4, e4.push ⟨T, _, rfl, .inl (.inl upd_same), ?_⟩⟩
      rw [hg]
      exact ⟨_, _, rfl, rfl, y, [], rfl, Rp.mono g4.sub.exz ef2.nz _ _ ry, rfl⟩
    · obtain ⟨F2, ys, ef2, g2, s2, r2⟩ := again a ro2 ka2 ta2 sg2 H2 hs (hm _ List.mem_cons_self) e2
      rw [List.length_map, List.length_range] at hi
      exact ⟨ys, s2, by rw [rpl_len r2]; exact hi⟩
end
end DL

namespace DL
open PySem L2 PySem.W
end DL

/-! EH: for loops of the hand layer out of the library's Goes: what an iterator hands out, told once, serves every caller (own work). -/
namespace DL
open PySem L2 PySem.W PyProof.Rows
end DL

/-! EI: nothing of its own (kept for the order of the parts). -/

/-! EJ: for i, x in enumerate(t), t a tuple: the library's GoesN over its Draws.tuple, told for the hand layer (own work). -/
namespace DL
open PySem L2 PySem.W PyProof.Rows
/-- what stands at turn i: the count, the iterator; the three lie apart -/
structure EnT (a e it : Addr) (i : Nat) (h : Heap) : Prop where
  en : ∃ old, IsEnum h e it (0 + (i : Int)) old
  itr : h.IsTupleIter it a i
  apart : e ≠ it ∧ a ≠ it ∧ a ≠ e
namespace EnT
variable {a e it : Addr} {i : Nat} {h : Heap}
theorem cells (z : EnT a e it i h) : ∀ b ∈ [e, it], ∃ o, h.get? b = some o ∧ ∀ v, o.data ≠ .cell v := by
  obtain ⟨⟨_, x⟩, ⟨o, y, _, d⟩, _⟩ := z
  simp only [List.forall_mem_cons, List.not_mem_nil, false_imp_iff, implies_true, and_true]
  exact ⟨⟨_, x, fun _ c => nomatch c⟩, o, y, fun _ c => nomatch d.symm.trans c⟩
theorem le (z : EnT a e it i h) {b T : Addr} (hb : b ∈ [e, it]) (hT : h.objs.size ≤ T) : b ≠ T := fun q =>
  let ⟨_, y, _⟩ := z.cells b hb
  Nat.lt_irrefl _ (Nat.lt_of_lt_of_le (q ▸ Heap.lt_size y) hT)
theorem out (z : EnT a e it i h) : e ∉ [it, a] := by
  have := z.apart
  simp only [List.mem_cons, List.not_mem_nil, or_false, not_or]
  exact ⟨this.1, this.2.2.symm⟩
end EnT
end DL

/-! EK: enumerate of lists and tuples alike (own work). -/
namespace DL
open PySem L2 PySem.W
section
variable {K : PySem.W.Frag} {ro : Ro} {ka k1 : Cells} {te : TE} {w : W}
end
end DL
namespace DL
open PySem L2 PySem.W
section
variable {K : PySem.W.Frag} {B F0 : Hp} {ro : Ro} {ka : Cells} {ta : List (V × W)} {De : Ends} {t u : TS}
theorem Gp.up {ta' : List (V × W)} {P : L2.St → Hp → Prop} (h : Gp K B F0 ta P ro ka) (s : ∀ p ∈ ta, p ∈ ta') : Gp K B F0 ta' P ro ka := fun sg H e => h sg H (e.held s)
end
section
variable {X : Cx}
end
/-- w holds the texts ys: a list or tuple of them, or a dict with these keys -/
inductive HasS (ka : Cells) : W → List Str → Prop where
  | sq {w : W} {t b : Bool} {ys : List Str} (l : Lk ka w t (stD ys) b) : HasS ka w ys
  | dc {w : W} {ds : List (Key × D)} {b : Bool} {ys : List Str} (l : Dk ka w ds b) (h : ∀ s, (getT ds (.inr s)).isSome = decide (s ∈ ys)) : HasS ka w ys
section
variable {K : PySem.W.Frag} {ro : Ro} {ka k1 k2 : Cells} {te tf : TE} {y : W}
end
end DL

/-! EL: cells frozen for the length of one expression, then cells again (own work). -/
namespace DL
open PySem L2 PySem.W
/-! ### data that reads no cell: numbers, texts, tuples of these -/
mutual
def tI : D → Bool
  | .lst _ => false | .dic _ => false | .dit _ => false | .ins _ _ => false | .din _ _ => false
  | .tup xs => tIL xs
  | _ => true
def tIL : List D → Bool
  | [] => true
  | d :: ds => tI d && tIL ds
end
section
variable {K : PySem.W.Frag} {B B' F F' F0 H H' : Hp} {ro ro' : Ro} {ka k1 k2 k3 kr kt : Cells} {ta tb : List (V × W)} {sg sg' : L2.St} {te tf : TE} {tt : TT} {w x y : W} {n : Nd} {a : Addr} {C : Addr}
/-- the heap F with the cells kt of H put in -/
def thF (F H : Hp) (kt : Cells) : Hp := fun a => if a ∈ kt.map (·.1) then H a else F a
theorem thF_out {a : Addr} (h : a ∉ kt.map (·.1)) : thF F H kt a = F a := if_neg h
theorem thF_sub (h : ∀ p ∈ kt, F p.1 = none) : Sub F (thF F H kt) := fun a o e => by
  rw [thF_out fun m => ?_]
  · exact e
  · obtain ⟨p, hp, rfl⟩ := List.mem_map.mp m
    rw [h p hp] at e
    cases e
/-- cells of the three kinds -/
def ndK : Nd → Bool
  | .lst _ => true | .dic _ => true | .ins _ _ => true | .din _ _ => true
  | _ => false
/-- what is known of cells that are put in -/
structure Thw (K : PySem.W.Frag) (F H : Hp) (kt : Cells) : Prop where
  no : ∀ p ∈ kt, F p.1 = none
  ok : ∀ p ∈ kt, NdOk K F H p.1 p.2
  kd : ∀ p ∈ kt, ndK p.2 = true
theorem Thw.gr (t : Thw K F H kt) (hB : ∀ p ∈ kt, B p.1 = none) : Gr B F (thF F H kt) := ⟨thF_sub t.no, fun a h1 h2 => by
  rw [thF_out fun m => ?_]
  · exact h1
  · obtain ⟨p, hp, rfl⟩ := List.mem_map.mp m
    exact h2 (hB p hp)⟩
theorem EnF.apart (e : EnF K B F ro (k1 ++ kt) ta sg H) {p : Addr × Nd} (hp : p ∈ k1) : p.1 ∉ kt.map (·.1) := fun m => by
  have nd := e.nd
  rw [List.map_append, List.nodup_append] at nd
  exact nd.2.2 p.1 (List.mem_map.mpr ⟨p, hp, rfl⟩) p.1 m rfl
/-! ### data that reads no cell stays without the cells -/
section
variable (no : ∀ b ∈ kt.map (·.1), ∃ o, F' b = some o ∧ isfz o = false ∧ ∀ xs, o ≠ .tup xs)
include no
theorem sqt_off {b : Addr} {xs : List V} (h : SqT K F' b xs) : SqT K (off F' kt) b xs := by
  rcases h with h | h
  · have m : b ∉ kt.map (·.1) := fun m => by
      obtain ⟨o, h1, h2, h3⟩ := no b m
      rcases h with h | ⟨z, h⟩
      · rw [h1] at h
        exact h3 _ (Option.some.inj h)
      · rw [h1] at h
        cases h
        cases h2
    exact .inl (h.elim (fun q => .inl (by rw [off_out m]; exact q)) fun ⟨z, q⟩ => .inr ⟨z, by rw [off_out m]; exact q⟩)
  · exact .inr h
mutual
theorem rp_off : ∀ (d : D) (v : V), tI d = true → Rp K F' d v → Rp K (off F' kt) d v
  | .non, v, _, h => h
  | .bl _, v, _, h => h
  | .int _, v, _, h => h
  | .str _, v, _, h => h
  | .ty _, v, _, h => h
  | .adr _, v, _, h => h
  | .tup ds, v, t, h => by
    obtain ⟨b, xs, e, h1, h2⟩ := h
    exact ⟨b, xs, e, sqt_off no h1, rpl_off ds xs t h2⟩
theorem rpl_off : ∀ (ds : List D) (xs : List V), tIL ds = true → RpL K F' ds xs → RpL K (off F' kt) ds xs
  | [], xs, _, h => h
  | d :: ds, xs, t, h => by
    obtain ⟨x, ys, e, h1, h2⟩ := h
    rw [tIL, Bool.and_eq_true] at t
    exact ⟨x, ys, e, rp_off d x t.1 h1, rpl_off ds ys t.2 h2⟩
end
end
end
/-! ### what a cell stands for -/
/-- the cell at a, with what stands behind it among kt, is the data d -/
def FrzD (K : PySem.W.Frag) (kt : Cells) (a : Addr) (d : D) : Prop := ∀ F H, Nz F → Thw K F H kt → Rp K (thF F H kt) d (.ref a)
/-- the same, or a cell and what it stands for -/
inductive FzR (K : PySem.W.Frag) (kt : Cells) : D → D → Prop where
  | s (d : D) : FzR K kt d d
  | a {a : Addr} {d : D} (h : FrzD K kt a d) : FzR K kt (.adr a) d
section
variable {K : PySem.W.Frag} {F H : Hp} {kt : Cells} {a : Addr} {C : Addr}
def FzL (K : PySem.W.Frag) (kt : Cells) : List D → List D → Prop
  | [], es => es = []
  | d :: ds, es => ∃ e r, es = e :: r ∧ FzR K kt d e ∧ FzL K kt ds r
theorem FzL.same : ∀ ds : List D, FzL K kt ds ds
  | [] => rfl
  | d :: ds => ⟨d, ds, rfl, .s d, FzL.same ds⟩
end
/-- the slots ro' are those of ro, but for cells that are told as what they stand for -/
structure RoT (K : PySem.W.Frag) (kt : Cells) (ro ro' : Ro) : Prop where
  len : ro'.length = ro.length
  at' : ∀ (i : Nat) (w : W), ro'[i]? = some (some w) → ro[i]? = some (some w) ∨ ∃ (a : Addr) (d : D), w = W.val d ∧ ro[i]? = some (some (W.val (.adr a))) ∧ FrzD K kt a d
section
variable {K : PySem.W.Frag} {B F F0 H H' : Hp} {ro ro' : Ro} {ka k1 k2 k3 kr kt : Cells} {ta tb : List (V × W)} {sg sg' : L2.St} {te tf : TE} {tt : TT} {w x y : W} {n : Nd} {a : Addr} {d : D}
theorem RoT.refl : RoT K kt ro ro := ⟨rfl, fun _ _ h => .inl h⟩
theorem RoT.set {i : Nat} (r : RoT K kt ro ro') (hi : ro[i]? = some (some (.val (.adr a)))) (z : FrzD K kt a d) : RoT K kt ro (ro'.set i (some (.val d))) := ⟨by rw [List.length_set]; exact r.len, fun j w h => by
  rw [List.getElem?_set] at h
  split at h
  · rename_i e
    subst e
    split at h
    · cases h
      exact .inr ⟨a, d, rfl, hi, z⟩
    · cases h
  · exact r.at' j w h⟩
end
end DL

/-! EM: in and bool by an own class's methods; d.pop(k) (own work). -/
namespace DL
open PySem PySem.Spec PyProof.Rows L2 PySem.W
section
variable {X : Cx} {CX : CXT} {k : Nat} {C f : Addr} {fd : FuncData} {ps : List Str} {sp : Sp} {E : XK}
/-- x in o, o of the class at C -/
abbrev rOwnIn (C : Addr) (neg : Bool) (sp : Sp) (E : XK) : R2 := fun x y H Q => ∃ a dx fs, y = .ref a ∧ H a = some (.ins C dx fs) ∧ sp [.ref a, x] H (fun v H' => ∃ b : Bool, v = .bl b ∧ Q (.bl (if neg then !b else b)) H') E
theorem in_own (m : Sm X.K C "__contains__" f) (F : FnOk X.prog X.w X.K X.mg X.base CX k f fd ps sp) (hr : Room k X.A) (hb : Binds X.K fd ps []) (hx : Passes CX X E) : OpR X (compareOp .In) (rOwnIn C false sp E) := by
  intro pins s sg H x y v u Q I rx ry h
  obtain ⟨a, dx, fs, rfl, ha, h⟩ := h
  cases ry
  obtain ⟨od, J⟩ := inst_at I ha
  obtain ⟨m1, hF⟩ := I.fr
  refine in_K hF I.ok.mod.kin J m.at_ m.fn (wpAny_mono (run_fn F hr rfl hb hx I (.cons (show RelV (.ref a) (.ref a) from rfl) (.cons rx .nil)) h) (fun r s' hq => ?_) fun _ _ z => z)
  obtain ⟨t, H', I', rt, b, rfl, q⟩ := hq
  cases rt
  exact wpAny_truthy_bool ⟨.bl b, H', I', rfl, q⟩
theorem ni_own (m : Sm X.K C "__contains__" f) (F : FnOk X.prog X.w X.K X.mg X.base CX k f fd ps sp) (hr : Room k X.A) (hb : Binds X.K fd ps []) (hx : Passes CX X E) : OpR X (compareOp .NotIn) (rOwnIn C true sp E) := by
  intro pins s sg H x y v u Q I rx ry h
  obtain ⟨a, dx, fs, rfl, ha, h⟩ := h
  cases ry
  obtain ⟨od, J⟩ := inst_at I ha
  obtain ⟨m1, hF⟩ := I.fr
  refine notIn_K hF I.ok.mod.kin J m.at_ m.fn (wpAny_mono (run_fn F hr rfl hb hx I (.cons (show RelV (.ref a) (.ref a) from rfl) (.cons rx .nil)) h) (fun r s' hq => ?_) fun _ _ z => z)
  obtain ⟨t, H', I', rt, b, rfl, q⟩ := hq
  cases rt
  exact wpAny_truthy_bool ⟨.bl (!b), H', I', rfl, q⟩
end
end DL
namespace DL
open PySem L2 PySem.W
section
variable {X : Cx} {k : Nat} {C f : Addr} {ps : List Str} {E : XK} {Ct' : Ct}
theorem in_ow (m : Sm X.K C "__contains__" f) (F : Fn X.prog X.w X.K X.mg X.base k f ps Ct') (hr : Room k X.A) (hx : Passes (L2.CX X.prog X.w) X E) : OpR X (compareOp .In) (rOwnIn C false (spC X.K Ct') E) := by
  obtain ⟨fd, F, b⟩ := F
  exact in_own m F hr b hx
theorem ni_ow (m : Sm X.K C "__contains__" f) (F : Fn X.prog X.w X.K X.mg X.base k f ps Ct') (hr : Room k X.A) (hx : Passes (L2.CX X.prog X.w) X E) : OpR X (compareOp .NotIn) (rOwnIn C true (spC X.K Ct') E) := by
  obtain ⟨fd, F, b⟩ := F
  exact ni_own m F hr b hx
end
section
variable {K : PySem.W.Frag} {B F0 : Hp} {ro : Ro} {ka k1 k2 kr : Cells} {ta : List (V × W)} {te tf td ty : TE} {x y : W} {C a : Addr} {fs : List (Str × D)} {b : Bool} {E : XK} {De : Ends} {u : TS}
theorem rv_ownIn {Cc : Ct} {neg c : Bool} (kr : Cells) (l : Io (k1 ++ kr) y C fs b) (hC : Cc [y, x] k1 (Rt (.bl c) k1)) : RvD K (rOwnIn C neg (spC K Cc) E) (k1 ++ kr) x y (.val (.bl (if neg then !c else c))) := fun B F0 ro ta sg H u v Q e h1 h2 q => by
  obtain ⟨a, dx, xs, rfl, ha⟩ := l.en e h2
  refine ⟨a, dx, xs, rfl, ha, sp_ret (ws := [y, x]) (ta := ta) (e.held fun p hp => ?_) rfl hC (fun _ _ z => z) fun v2 H' e2 => ?_⟩
  · rcases List.mem_append.mp hp with hp | hp
    · simp at hp
      rcases hp with rfl | rfl
      · exact h2
      · exact h1
    · exact hp
  · obtain rfl := e2.tm_bl List.mem_cons_self
    exact ⟨c, rfl, q _ _ (e2.pop.push_imm fun _ => rfl)⟩
theorem ev_inO {Cc : Ct} {c : Bool} (h : EvD K te ro ka x k1) (h2 : EvD K tf ro k1 y k2) (l : Io k2 y C fs b) (hC : Cc [y, x] [] (Rt (.bl c) [])) : EvD K (tOp (rOwnIn C false (spC K Cc) E) te tf) ro ka (.val (.bl c)) k2 := ev_op h h2 (rv_ownIn (neg := false) (k1 := []) k2 l hC)
theorem ev_niO {Cc : Ct} {c : Bool} (h : EvD K te ro ka x k1) (h2 : EvD K tf ro k1 y k2) (l : Io k2 y C fs b) (hC : Cc [y, x] [] (Rt (.bl c) [])) : EvD K (tOp (rOwnIn C true (spC K Cc) E) te tf) ro ka (.val (.bl (!c))) k2 := ev_op h h2 (rv_ownIn (neg := true) (k1 := []) k2 l hC)
end
end DL
namespace DL
open PySem L2 PySem.W
/-- a def with defaults, called without them or with all -/
def FnE (P : Program) (w : World) (K : PySem.W.Frag) (mg : Str → Option Value) (base : Heap) (k : Nat) (f : Addr) (ps : List Str) (dvs : List V) (C : Ct) : Prop :=
  ∃ fd, FnOk P w K mg base (L2.CX P w) k f fd ps (spC K C) ∧ (∃ ds, Vals dvs ds ∧ Binds K fd ps ds) ∧ ∃ ds, Vals [] ds ∧ Binds K fd ps ds
section
variable {P : Program} {w : World} {K : PySem.W.Frag} {mg : Str → Option Value} {base : Heap} {k : Nat} {f : Addr} {ps N : List Str} {dvs : List V} {C : Ct} {x qual : Str} {params : Arguments} {body : List Stmt} {scope : Scope} {fd : FuncData}
theorem FnE.d (F : FnE P w K mg base k f ps dvs C) : FnD P w K mg base k f ps dvs C := let ⟨fd, a, b, _⟩ := F; ⟨fd, a, b⟩
theorem FnE.a (F : FnE P w K mg base k f ps dvs C) : Fn P w K mg base k f ps C := by
  obtain ⟨fd, a, _, ds, v, b⟩ := F
  cases v
  exact ⟨fd, a, b⟩
end
end DL
namespace DL
open PySem L2 PySem.W
/-- an own error that the law never raises: nothing is said of its __init__ -/
def spF : Sp := fun _ _ _ _ => False
structure Xf (P : Program) (w : World) (K : PySem.W.Frag) (mg : Str → Option Value) (base : Heap) (C : Addr) : Prop where
  xc : Xc K C
  ex : ∃ fI fd ps, findIn K (.ref C) "__init__" = some (some (.ref fI)) ∧ typeIn K (.ref fI) = some (.type "function") ∧ FnOk P w K mg base (L2.CX P w) 1 fI fd ps spF ∧ Binds K fd ps []
namespace Xf
variable {P : Program} {w : World} {K : PySem.W.Frag} {mg : Str → Option Value} {base : Heap} {C : Addr}
noncomputable def fI (Z : Xf P w K mg base C) : Addr := Classical.choose Z.ex
noncomputable def fd (Z : Xf P w K mg base C) : FuncData := Classical.choose (Classical.choose_spec Z.ex)
noncomputable def px (Z : Xf P w K mg base C) : List Str := Classical.choose (Classical.choose_spec (Classical.choose_spec Z.ex))
theorem all (Z : Xf P w K mg base C) : findIn K (.ref C) "__init__" = some (some (.ref Z.fI)) ∧ typeIn K (.ref Z.fI) = some (.type "function") ∧ FnOk P w K mg base (L2.CX P w) 1 Z.fI Z.fd Z.px spF ∧ Binds K Z.fd Z.px [] :=
  Classical.choose_spec (Classical.choose_spec (Classical.choose_spec Z.ex))
end Xf
end DL

/-! EN: any cells frozen for good, returns by a word, orders of cells (own work). -/
namespace DL
open PySem L2 PySem.W
section
variable {K : PySem.W.Frag} {B F F0 H : Hp} {ro ro' : Ro} {ka kb k1 k2 k3 kr kt : Cells} {ta : List (V × W)} {sg : L2.St} {te : TE} {tt : TT} {w : W} {n : Nd} {P : L2.St → Hp → Prop} {De : Ends} {b : Bool} {Q : W → Cells → Prop}
/-- a return of which a word tells -/
theorem g_retE {out : Oc} (hr : RtOk K B F0 out De.rt) (h : EvR K te ro ka Q) (o : ∀ w k, Q w k → ∃ d, w = .val d ∧ out (.ret d) k) : Gp K B F0 ta (tRet te De) ro ka := fun sg H e => h B F0 ta sg H _ e fun w k v H' q e' => by
  obtain ⟨d, rfl, ho⟩ := o w k q
  exact hr d k v H' ho e'.leave
theorem EvD.pm (h : EvD K te ro k1 w k2) (s1 : k1.Perm ka) (s2 : k2.Perm kb) : EvD K te ro ka w kb := fun B F0 ta sg H Q e q => h B F0 ta sg H Q (e.perm s1) fun v H' e' => q v H' (e'.perm s2.symm)
theorem EvT.pm (h : EvT K tt ro k1 b k2) (s1 : k1.Perm ka) (s2 : k2.Perm kb) : EvT K tt ro ka b kb := fun B F0 ta sg H Q e q => h B F0 ta sg H Q (e.perm s1) fun H' e' => q H' (e'.perm s2.symm)
theorem EvR.pm (h : EvR K te ro k1 Q) (s1 : k1.Perm ka) : EvR K te ro ka Q := fun B F0 ta sg H Q e q => h B F0 ta sg H Q (e.perm s1) q
theorem EvR.fr {P2 : W → Cells → Prop} (h : EvR K te ro k1 P2) (kr : Cells) (hP : ∀ w k, P2 w k → ∃ d, w = .val d) : EvR K te ro (k1 ++ kr) (fun w k => ∃ k0, P2 w k0 ∧ k = k0 ++ kr) := fun B F0 ta sg H Q e q => by
  obtain ⟨F, g, e⟩ := e
  refine h (off H k1) F [] sg H _ ⟨F, Gr.refl _ _, e.into e.ln (fun i w h => e.sl i w h) (fun p hp => by cases hp)⟩ fun w k v H' p e' => ?_
  obtain ⟨F', g', e'⟩ := e'
  obtain ⟨d, rfl⟩ := hP w k p
  obtain ⟨g2, e2⟩ := e.back g' e' (tb := (v, .val d) :: ta) fun p hp => by
    rcases List.mem_cons.mp hp with rfl | hp
    · exact .inr ⟨d, rfl, List.mem_cons_self⟩
    · exact .inl hp
  exact q _ _ v H' ⟨k, p, rfl⟩ ⟨F', g.trans g2, e2⟩
end
end DL
namespace DL
open PySem L2 PySem.W
section
variable {K : PySem.W.Frag} {ro : Ro} {ka k1 k2 : Cells} {ty td : TE} {P : W → Cells → Prop}
end
end DL
namespace DL
open PySem L2 PySem.W
section
variable {K : PySem.W.Frag} {B F0 : Hp} {ro : Ro} {ka k1 k2 : Cells} {ta : List (V × W)} {tt tu : TT} {De : Ends} {t t' u : TS} {R : Bool → Cells → Prop} {a b : Bool}
end
end DL
namespace DL
open PySem L2 PySem.W
section
variable {K : PySem.W.Frag} {ro : Ro} {ka k1 k2 : Cells} {te : TE} {tr : TA} {C C1 : Addr} {gs : List (Str × D)} {E : XK} {ws : List W} {Cc : Ct}
end
end DL
namespace DL
open PySem L2 PySem.W
section
variable {K : PySem.W.Frag} {ro : Ro} {ka k1 k2 : Cells} {te : TE} {tt : TT} {C : Addr} {fs : List (Str × D)} {b : Bool} {w : W} {E : XK} {Cc : Ct} {P : W → Cells → Prop} {R : Bool → Cells → Prop}
end
end DL


/-! EP: comprehensions over pairs; isinstance of several types (own work). -/
namespace DL
open PySem L2 PySem.W
theorem wipe_get (s : L2.St) : ∀ (vs : List Nat) (i : Nat), (wipe s vs)[i]? = if i ∈ vs ∧ i < s.length then some none else s[i]?
  | [], i => by
    show s[i]? = _
    rw [if_neg fun h => by cases h.1]
  | v :: vs, i => by
    show ((wipe s vs).set v none)[i]? = _
    rw [List.getElem?_set, wipe_get s vs i, wipe_length]
    by_cases hv : v = i
    · subst hv
      by_cases hl : v < s.length
      · rw [if_pos rfl, if_pos hl, if_pos ⟨List.mem_cons_self, hl⟩]
      · rw [if_pos rfl, if_neg hl, if_neg fun h => hl h.2, List.getElem?_eq_none (by omega)]
    · rw [if_neg hv]
      by_cases hm : i ∈ vs ∧ i < s.length
      · rw [if_pos hm, if_pos ⟨List.mem_cons_of_mem _ hm.1, hm.2⟩]
      · rw [if_neg hm, if_neg fun h => hm ⟨(List.mem_cons.mp h.1).resolve_left fun z => hv z.symm, h.2⟩]
theorem wipe_sets {s : L2.St} {vs : List Nat} {j : Nat} (hj : j ∈ vs) (x : Option V) : wipe (s.set j x) vs = wipe s vs := List.ext_getElem? fun i => by
  rw [wipe_get, wipe_get, List.length_set]
  by_cases h : i ∈ vs ∧ i < s.length
  · rw [if_pos h, if_pos h]
  · rw [if_neg h, if_neg h]
    by_cases e : j = i
    · subst e
      have : ¬ j < s.length := fun z => h ⟨hj, z⟩
      rw [List.getElem?_eq_none (by rw [List.length_set]; omega), List.getElem?_eq_none (by omega)]
    · rw [List.getElem?_set_ne e]
theorem wipe_two (s : L2.St) (vs : List Nat) : wipe (wipe s vs) vs = wipe s vs := List.ext_getElem? fun i => by
  rw [wipe_get, wipe_length, wipe_get]
  split <;> rfl
section
variable {K : PySem.W.Frag} {B F F0 : Hp} {ro : Ro} {ka k1 : Cells} {ta : List (V × W)} {sg : L2.St} {H : Hp} {te : TE} {tt : TT} {d1 d2 : D} {j l : Nat}
theorem gpair {σ : L2.St} {x : V} {Q : L2.St → Hp → Prop} (e : EnF K B F ro ka ta sg H) (h : Rp K F (.tup [d1, d2]) x) (q : ∀ v1 v2, Rp K F d1 v1 → Rp K F d2 v2 → Q ((σ.set j (some v1)).set l (some v2)) H) : gTup K 2 (gCons (gName j) (gCons (gName l) gNil)) x σ H Q := by
  obtain ⟨a, xs, rfl, h1, h2⟩ := h
  obtain ⟨v1, r, rfl, r1, v2, r', rfl, r2, rfl⟩ := h2
  exact ⟨a, _, rfl, sqT_mono e.fz e.nz h1, rfl, v1, [v2], rfl, v2, [], rfl, rfl, q v1 v2 r1 r2⟩
/-- [e for x, y in .. if ..]: what is told of the list -/
theorem evr_lcP {wi : TI} {ps : List (D × D)} {C : Cells → Prop} {vs : List Nat} (h : EvI K wi ro ka (ps.map fun p => W.val (.tup [p.1, p.2])) C k1) (hj : j ∈ vs) (hl : l ∈ vs) (hn : ps.length ≤ 1000000) (Inv : Nat → List D → Cells → Prop) (h0 : Inv 0 [] k1) (hC : ∀ i acc k, Inv i acc k → C k ∧ ∀ x, C (k ++ [x]))
    (hs : ∀ i p acc k, ps[i]? = some p → Inv i acc k → (∃ k2, EvT K tt (((wipeR ro vs).set j (some (.val p.1))).set l (some (.val p.2))) k false k2 ∧ Inv (i + 1) acc k2) ∨ ∃ k2 k3 d, EvT K tt (((wipeR ro vs).set j (some (.val p.1))).set l (some (.val p.2))) k true k2 ∧ EvD K te (((wipeR ro vs).set j (some (.val p.1))).set l (some (.val p.2))) k2 (.val d) k3 ∧ Inv (i + 1) (acc ++ [d]) k3)
    : EvNR K (tLc wi (gTup K 2 (gCons (gName j) (gCons (gName l) gNil))) tt te vs) ro ka (fun n k => ∃ acc, n = .lst acc ∧ Inv ps.length acc k) := fun B F0 ta sg H Q e q =>
  h B F0 ta sg H _ e fun J ta' H1 hta e1 hgo hst => fun Dl hD => by
    let P : Nat → Hp → Prop := fun i H => ∃ acc k, Inv i acc k ∧ acc.length ≤ i ∧ En K B F0 ro (k ++ [(Dl, .lst acc)]) ta' sg H
    have p0 : P 0 (upd H1 Dl (.lst [])) := by
      obtain ⟨F, g, e1⟩ := e1
      exact ⟨[], k1, h0, Nat.le_refl _, F, g, e1.cell (o := .lst []) hD (n := .lst []) ⟨[], upd_same, rfl⟩⟩
    have hln : (ps.map fun p : D × D => W.val (.tup [p.1, p.2])).length = ps.length := List.length_map _
    refine ⟨fun i m H => m = ps.length - i ∧ i ≤ ps.length ∧ P i H, ⟨ps.length, by simp, Nat.zero_le _, p0⟩, ?_⟩
    rintro i m H2 ⟨rfl, hi, acc, k, inv, hlen, e2⟩
    by_cases hlt : i < ps.length
    · have hw : ps[i]? = some ps[i] := List.getElem?_eq_getElem hlt
      have hw2 : (ps.map fun p : D × D => W.val (.tup [p.1, p.2]))[i]? = some (.val (.tup [ps[i].1, ps[i].2])) := by rw [List.getElem?_map, hw]; rfl
      obtain ⟨g1, g2⟩ := hgo i _ ro (k ++ [(Dl, .lst acc)]) ta' sg H2 hw2 ((hC i acc k inv).2 _) (fun p hp => hp) e2
      refine .inr ⟨g1, P (i + 1), fun H' p => ⟨ps.length - (i + 1), by omega, rfl, hlt, p⟩, fun x H3 y => ?_⟩
      obtain ⟨F3, gF3, eF3⟩ := g2 x H3 y
      refine gpair eF3 (eF3.tm _ List.mem_cons_self) fun v1 v2 r1 r2 => ⟨?_, ?_⟩
      · rw [wipe_sets hl, wipe_sets hj, wipe_two]
      have slots : ∀ {F : Hp}, Gr B F3 F → ∀ (a : Nat) w, ro[a]? = some (some w) → ∃ v, sg[a]? = some (some v) ∧ WOk K B F v w := fun {F} g a w ha => by
        obtain ⟨v, h1, h2⟩ := eF3.sl a w ha
        exact ⟨v, h1, wok_gr eF3.nz g h2⟩
      have out : ∀ {k : Cells} {ta2 : List (V × W)} {H : Hp}, (∃ F, Gr B F0 F ∧ EnF K B F (((wipeR ro vs).set j (some (.val ps[i].1))).set l (some (.val ps[i].2))) k ta2 (((wipe sg vs).set j (some v1)).set l (some v2)) H ∧ ∀ (a : Nat) w, ro[a]? = some (some w) → ∃ v, sg[a]? = some (some v) ∧ WOk K B F v w) → En K B F0 ro k ta2 sg H := fun ⟨F, g, q, hs⟩ => ⟨F, g, q.frame (by obtain ⟨_, _, e0⟩ := e; exact e0.ln) hs⟩
      have e4' : En K B F3 (((wipeR ro vs).set j (some (.val ps[i].1))).set l (some (.val ps[i].2))) (k ++ [(Dl, .lst acc)]) ta' (((wipe sg vs).set j (some v1)).set l (some v2)) H3 :=
        ⟨F3, Gr.refl _ _, (((wipe_en (vs := vs) eF3).set (w := .val ps[i].1) r1 j).set (w := .val ps[i].2) r2 l).held fun p hp => List.mem_cons_of_mem _ hp⟩
      rcases hs i ps[i] acc k hw inv with ⟨k2, t1, inv2⟩ | ⟨k2, k3, d, t1, t2, inv2⟩
      · refine t1.fr [(Dl, .lst acc)] B F3 ta' _ H3 _ e4' fun H4 ⟨F4, g4, e5⟩ => ?_
        exact ⟨acc, k2, inv2, Nat.le_succ_of_le hlen, out ⟨F4, gF3.trans g4, e5, slots g4⟩⟩
      · refine t1.fr [(Dl, .lst acc)] B F3 ta' _ H3 _ e4' fun H4 e5 => ?_
        refine t2.fr [(Dl, .lst acc)] B F3 ta' _ H4 _ e5 fun v H5 ⟨F5, g5, e6⟩ => ?_
        have hx : (k3 ++ [(Dl, Nd.lst acc)])[k3.length]? = some (Dl, Nd.lst acc) := by simp
        obtain ⟨xs, h1, h2⟩ := e6.rd_lst hx
        have hv := e6.tm _ List.mem_cons_self
        have e7 := e6.write (o := .lst (xs ++ [v])) (n' := .lst (acc ++ [d])) hx ⟨_, upd_same, rpl_app h2 ⟨v, [], rfl, hv, rfl⟩⟩
        have hset : (k3 ++ [(Dl, Nd.lst acc)]).set k3.length (Dl, Nd.lst (acc ++ [d])) = k3 ++ [(Dl, Nd.lst (acc ++ [d]))] := by
          rw [List.set_append_right _ _ (Nat.le_refl _)]
          simp
        rw [hset] at e7
        refine ⟨xs, h1, by rw [rpl_len h2]; exact Nat.lt_of_le_of_lt (Nat.le_trans hlen (Nat.le_trans hi hn)) (by decide), acc ++ [d], k3, inv2, by rw [List.length_append]; exact Nat.succ_le_succ hlen, ?_⟩
        exact out ⟨F5, gF3.trans g5, e7.held fun p hp => List.mem_cons_of_mem _ hp, slots g5⟩
    · have ei : i = ps.length := by omega
      subst ei
      refine .inl ⟨hst _ ro (k ++ [(Dl, .lst acc)]) ta' sg H2 (by rw [hln]; exact Nat.le_refl _) ((hC _ acc k inv).2 _) (fun p hp => hp) e2, ?_⟩
      exact q _ _ Dl H2 ⟨acc, rfl, inv⟩ (e2.held hta)
/-- [f(x, y) for x, y in .. if p(x, y)] -/
theorem evn_filtP {wi : TI} {ps : List (D × D)} {f : D × D → D} {p : D × D → Bool} {C : Cells → Prop} {vs : List Nat} (h : EvI K wi ro ka (ps.map fun p => W.val (.tup [p.1, p.2])) C k1) (hj : j ∈ vs) (hl : l ∈ vs) (hn : ps.length ≤ 1000000) (hC : C k1 ∧ ∀ x, C (k1 ++ [x]))
    (ht : ∀ x ∈ ps, EvT K tt (((wipeR ro vs).set j (some (.val x.1))).set l (some (.val x.2))) k1 (p x) k1) (hs : ∀ x ∈ ps, p x = true → EvD K te (((wipeR ro vs).set j (some (.val x.1))).set l (some (.val x.2))) k1 (.val (f x)) k1) : EvN K (tLc wi (gTup K 2 (gCons (gName j) (gCons (gName l) gNil))) tt te vs) ro ka (.lst ((ps.filter p).map f)) k1 := fun B F0 ta sg H Q e q => by
  refine evr_lcP h hj hl hn (fun i acc k => acc = ((ps.take i).filter p).map f ∧ k = k1) ⟨rfl, rfl⟩ (fun i acc k z => by rw [z.2]; exact hC) (fun i x acc k hx ⟨e1, e2⟩ => ?_) B F0 ta sg H Q e fun n k a H' ⟨acc, hn', e1, e2⟩ e' => ?_
  · subst e1 e2
    have hm := List.mem_of_getElem? hx
    have t := ht x hm
    rw [take_succ_some hx, List.filter_append, List.map_append]
    cases hp : p x with
    | false =>
      rw [hp] at t
      exact .inl ⟨_, t, by rw [List.filter_cons, hp]; simp, rfl⟩
    | true =>
      rw [hp] at t
      exact .inr ⟨_, _, f x, t, hs x hm hp, by rw [List.filter_cons, hp]; simp, rfl⟩
  · subst hn' e1 e2
    rw [List.take_length] at e'
    exact q a H' e'
end
/-! ### isinstance of several types -/
def rIsiU (K : PySem.W.Frag) : List V → Hp → VK → Prop := fun xs H Q => rIsi K xs H Q ∨ (fun xs H Q => rIsiT K xs H Q ∨ rIsiK K xs H Q) xs H Q
theorem call_isiU {X : Cx} : CallR X (.builtin "isinstance") (rIsiU X.K) := call_isi.or (call_isiT.or call_isiK)
section
variable {K : PySem.W.Frag} {ro : Ro} {ka k1 k2 : Cells} {te tf : TE} {w : W}
/-- the type of what w stands for, wherever it is asked -/
def TwX (K : PySem.W.Frag) (ka : Cells) (w : W) (t : Value) : Prop := ∀ B F0 ro ta sg H v, En K B F0 ro ka ta sg H → (v, w) ∈ ta → TyX K H v t
theorem Tw.x {t : Value} (l : Tw K ka w t) : TwX K ka w t := fun _ _ _ _ _ _ _ e h => l.at e h
theorem twx_dic {ds : List (Key × D)} : TwX K ka (.val (.dic ds)) (.type "dict") := fun B F0 ro ta sg H v e h => by
  obtain ⟨F, g, e⟩ := e
  obtain ⟨a, xs, rfl, h1, _⟩ := e.tm _ h
  rcases e.fz.rd e.nz h1 with h1 | ⟨o, h1⟩
  · exact .base (.dK h1)
  · exact .fDict h1
/-- isinstance(x, (T1, T2)) -/
theorem ev_isi2 {T1 T2 : String} {t : Value} {b1 b2 : Bool} (h : EvD K te ro ka w k1) (l : TwX K k1 w t) (e1 : kitOne K t (.type T1) = some b1) (e2 : kitOne K t (.type T2) = some b2) :
    EvD K (tCB (rIsiU K) (tCons te (tCons (tTup (tCons (tC (.ty T1)) (tCons (tC (.ty T2)) tNil))) tNil))) ro ka (.val (.bl (b1 || b2))) k1 := ev_cb (ea2 h (ev_tup (ds := [.ty T1, .ty T2]) (ea2 ev_ty ev_ty) (show 2 ≤ 100000 by decide))) fun B F0 ro ta sg H us Q e' hl hm q => by
  obtain ⟨u, v, rfl, h1, h2⟩ := zip_two hl hm
  have ty := l _ _ _ _ _ _ _ e' h1
  have fin := q (.bl (b1 || b2)) H (e'.push_imm fun _ => rfl)
  have ka : PySem.W.kitAny K t [.type T1, .type T2] = some (b1 || b2) := kitAny_cons e1 (fun z => by
    rw [z, Bool.false_or]
    exact kitAny_cons e2 (fun z2 => by rw [z2]; exact kitAny_nil) fun z2 => z2) fun z => by rw [z, Bool.true_or]
  obtain ⟨F, g, ef⟩ := e'
  obtain ⟨a, xs, rfl, s1, r1⟩ := Lk.vt.get ef (ef.tm _ h2)
  obtain ⟨x1, r, rfl, q1, x2, r', rfl, q2, rfl⟩ := r1
  obtain rfl : x1 = .ty T1 := q1
  obtain rfl : x2 = .ty T2 := q2
  have hF := ef.tm _ h2
  obtain ⟨a', xs', e3, s2, r2⟩ := hF
  cases e3
  rcases s2 with s2 | s2
  · obtain ⟨y1, r, rfl, q1, y2, r', rfl, q2, rfl⟩ := r2
    obtain rfl : y1 = .ty T1 := q1
    obtain rfl : y2 = .ty T2 := q2
    rcases s2 with s2 | ⟨o, s2⟩
    · exact .inr (.inl ⟨u, a, _, t, _, _, rfl, ef.fz.at s2 rfl, .cons (.ty T1) (.cons (.ty T2) .nil), ty, ka, fin⟩)
    · have := ef.nz _ _ s2
      cases this
  · obtain ⟨y1, r, rfl, q1, y2, r', rfl, q2, rfl⟩ := r2
    obtain rfl : y1 = .ty T1 := q1
    obtain rfl : y2 = .ty T2 := q2
    obtain ⟨o, its, n, p1, p2, p3, p4, p5⟩ := s2
    obtain ⟨oc, od, dt, sl⟩ := o
    have htl : its.toList = [.type T1, .type T2] := by
      cases hh : its.toList with
      | nil => rw [hh] at p5; cases p5
      | cons u1 us' =>
        rw [hh] at p5
        cases p5 with
        | cons a1 b1 =>
          cases b1 with
          | cons a2 b2 =>
            cases b2
            obtain rfl : _ = Value.type T1 := a1
            obtain rfl : _ = Value.type T2 := a2
            rfl
    have hits : its = [Value.type T1, .type T2].toArray := by
      rw [← htl, Array.toArray_toList]
    obtain rfl : oc = .type "tuple" := p2
    obtain rfl : dt = .seq its n := p3
    rw [hits] at p1
    exact .inr (.inr ⟨u, a, od, _, n, sl, t, _, rfl, p1, ty, ka, fin⟩)
end
end DL
namespace DL
open PySem L2 PySem.W
theorem evn_filt_to {K : PySem.W.Frag} {ro : Ro} {ka k1 : Cells} {te : TE} {ds es : List D} (h : EvN K te ro ka (.lst ds) k1) (e : ds = es) : EvN K te ro ka (.lst es) k1 := e ▸ h
end DL
namespace DL
open PySem L2 PySem.W
section
variable {K : PySem.W.Frag} {ro : Ro} {ka k1 k2 : Cells} {te : TE} {tr : TA} {w : W} {C C1 : Addr} {fs : List (Str × D)} {b : Bool} {E : XK} {Cc : Ct} {ws : List W}
end
end DL

/-! EQ: for over a list of which a word tells (own work). -/
namespace DL
open PySem L2 PySem.W
section
variable {K : PySem.W.Frag} {B F F0 : Hp} {ro : Ro} {ka k1 k2 k3 kr : Cells} {ta : List (V × W)} {sg : L2.St} {H H' : Hp} {te tf tg : TE} {w x y z : W} {n : Nd} {P P2 : W → Cells → Prop} {De : Ends} {u : TS} {r : R2}
theorem RvN.lstR {ds : List D} (h : RvN K r ka x y (.lst ds)) : RvR K r ka x y (fun w k => w = .val (.lst ds) ∧ k = ka) := fun B F0 ro ta sg H u v Q e h1 h2 q => h B F0 ro ta sg H u v Q e h1 h2 fun a H' e' => q _ _ _ H' ⟨rfl, rfl⟩ e'.freeze_l
end
end DL

/-! ES: what the courses' laws want (own work). -/
namespace DL
open PySem L2 PySem.W
/-! an object made where the wish of an exception may speak of the slots -/
section
variable {X : Cx} {CX : CXT} {k : Nat} {C f : Addr} {fd : FuncData} {ps : List Str} {sp : Sp} {dvs : List V} {ds : List Value}
end
section
variable {K : PySem.W.Frag} {B F0 : Hp} {ro : Ro} {ka k1 k2 k3 : Cells} {ta : List (V × W)} {te tf tg : TE} {tt : TT} {De : Ends} {t u : TS} {w x y : W}
/-- a, b = x, y -/
theorem g_par {i j : Nat} {tr : TA} (h : EvA K tr ro ka [x, y] k1) (k : Gp K B F0 ta De.nx ((ro.set i (some x)).set j (some y)) k1) : Gp K B F0 ta (tPar i j tr De) ro ka := fun sg H e => h B F0 ta sg H _ e fun vs H1 hl e1 => by
  match vs, hl, e1 with
  | [v, v2], _, e1 =>
    obtain ⟨F, g, e1⟩ := e1
    have m1 := e1.tm _ List.mem_cons_self
    have m2 := e1.tm _ (List.mem_cons_of_mem _ List.mem_cons_self)
    exact ⟨v, v2, rfl, k _ _ ⟨F, g, ((e1.set m1 i).set m2 j).held fun p hp => List.mem_cons_of_mem _ (List.mem_cons_of_mem _ hp)⟩⟩
theorem q_par {i j : Nat} {tr : TA} (h : EvA K tr ro ka [x, y] k1) (k : Gp K B F0 ta (u De) ((ro.set i (some x)).set j (some y)) k1) : Gp K B F0 ta (tSeq (tPar i j tr) u De) ro ka := g_par (De := { De with nx := u De }) h k
/-- arguments told by a word -/
def EvAR (K : PySem.W.Frag) (tr : TA) (ro : Ro) (ka : Cells) (R : List W → Cells → Prop) : Prop := ∀ B F0 ta sg H (Q : List V → Hp → Prop), En K B F0 ro ka ta sg H → (∀ ws k vs H', R ws k → vs.length = ws.length → En K B F0 ro k (vs.zip ws ++ ta) sg H' → Q vs H') → tr sg H Q
theorem ear_cons {tr : TA} {P : W → Cells → Prop} {R : W → List W → Cells → Prop} (h : EvR K te ro ka P) (hr : ∀ w k, P w k → EvAR K tr ro k (R w)) : EvAR K (tCons te tr) ro ka (fun ws k => ∃ w ws', ws = w :: ws' ∧ R w ws' k) := fun B F0 ta sg H Q e q =>
  h B F0 ta sg H _ e fun w k1 u H1 p e1 => hr w k1 p B F0 _ sg H1 _ e1 fun ws k2 vs H2 r hl e2 => q (w :: ws) k2 (u :: vs) H2 ⟨w, ws, rfl, r⟩ (by rw [List.length_cons, List.length_cons, hl]) (e2.held fun p hp => by
    have hp' : p ∈ (u, w) :: (vs.zip ws ++ ta) := hp
    rcases List.mem_cons.mp hp' with rfl | h
    · exact List.mem_append_right _ List.mem_cons_self
    · rcases List.mem_append.mp h with h | h
      · exact List.mem_append_left _ h
      · exact List.mem_append_right _ (List.mem_cons_of_mem _ h))
theorem ear_cD {tr : TA} {R : List W → Cells → Prop} (h : EvD K te ro ka w k1) (hr : EvAR K tr ro k1 R) : EvAR K (tCons te tr) ro ka (fun ws k => ∃ ws', ws = w :: ws' ∧ R ws' k) := fun B F0 ta sg H Q e q =>
  h B F0 ta sg H _ e fun u H1 e1 => hr B F0 _ sg H1 _ e1 fun ws k2 vs H2 r hl e2 => q (w :: ws) k2 (u :: vs) H2 ⟨ws, rfl, r⟩ (by rw [List.length_cons, List.length_cons, hl]) (e2.held fun p hp => by
    have hp' : p ∈ (u, w) :: (vs.zip ws ++ ta) := hp
    rcases List.mem_cons.mp hp' with rfl | h
    · exact List.mem_append_right _ List.mem_cons_self
    · rcases List.mem_append.mp h with h | h
      · exact List.mem_append_left _ h
      · exact List.mem_append_right _ (List.mem_cons_of_mem _ h))
theorem EvA.toR {tr : TA} {ws : List W} (h : EvA K tr ro ka ws k1) : EvAR K tr ro ka (fun ws' k => ws' = ws ∧ k = k1) := fun B F0 ta sg H Q e q => h B F0 ta sg H _ e fun vs H' hl e' => q ws k1 vs H' ⟨rfl, rfl⟩ hl e'
theorem EvAR.imp {tr : TA} {R R2 : List W → Cells → Prop} (h : EvAR K tr ro ka R) (i : ∀ ws k, R ws k → R2 ws k) : EvAR K tr ro ka R2 := fun B F0 ta sg H Q e q => h B F0 ta sg H Q e fun ws k vs H' r => q ws k vs H' (i ws k r)
/-- xs.append(e), e told by a word -/
theorem g_appR {j0 : Nat} {a : Addr} {ds0 : List D} {P : W → Cells → Prop} (ho : EvD K te ro ka (.val (.adr a)) k1) (h0 : k1[j0]? = some (a, .lst ds0)) (he : EvR K tf ro k1 P)
    (k : ∀ w k2, P w k2 → ∃ (d : D) (ds : List D) (j : Nat), w = .val d ∧ k2[j]? = some (a, .lst ds) ∧ ds.length < 100000 ∧ Gp K B F0 ta De.nx ro (k2.set j (a, .lst (ds ++ [d])))) : Gp K B F0 ta (tDrop (tBM K "list" rAppend te (tCons tf tNil)) De) ro ka := fun sg H e => ho B F0 ta sg H _ e fun u H1 e1 => by
  have hu := e1.tm_adr List.mem_cons_self
  subst hu
  refine ⟨?_, he B F0 _ sg H1 _ e1 fun w k2 v H2 p e2 => ?_⟩
  · obtain ⟨F, g, e1⟩ := e1
    obtain ⟨xs, hx, _⟩ := e1.rd_lst h0
    exact .inl ⟨rfl, xs, .inl (.inl hx)⟩
  · obtain ⟨d, ds, j, rfl, hj, hz, kk⟩ := k w k2 p
    obtain ⟨F, g, e2⟩ := e2
    obtain ⟨xs, hx, rx⟩ := e2.rd_lst hj
    have hv := e2.tm _ List.mem_cons_self
    refine ⟨a, xs, v, rfl, rfl, hx, by rw [rpl_len rx]; exact Nat.lt_of_lt_of_le hz (by decide), kk _ _ ⟨F, g, ?_⟩⟩
    exact (e2.write (o := .lst (xs ++ [v])) (n' := .lst (ds ++ [d])) hj ⟨_, upd_same, rpl_app rx ⟨v, [], rfl, hv, rfl⟩⟩).held fun p hp => List.mem_cons_of_mem _ (List.mem_cons_of_mem _ hp)
/-- what raises lets the def end so -/
theorem g_dropP {out : Oc} {E : XK} {C1 : Addr} {gs : List (Str × D)} (hX : RxOk K B F0 out E) (h : EvX K te ro ka E C1 gs k2) (o : out (.exc C1 gs) k2) : Gp K B F0 ta (tDrop te De) ro ka := fun sg H e => h B F0 ta sg H _ e fun dx H' e' => hX.1 C1 gs k2 dx H' o e'.leaveX
theorem q_dropP {out : Oc} {E : XK} {C1 : Addr} {gs : List (Str × D)} (hX : RxOk K B F0 out E) (h : EvX K te ro ka E C1 gs k2) (o : out (.exc C1 gs) k2) : Gp K B F0 ta (tSeq (tDrop te) u De) ro ka := g_dropP (De := { De with nx := u De }) hX h o
end
section
variable {P : Program} {w : World} {K : PySem.W.Frag} {mg : Str → Option Value} {base : Heap} {k : Nat} {x qual : Str} {N ps : List Str} {params : Arguments} {body : List Stmt} {scope : Scope} {f : Addr} {fd : FuncData} {C : Ct}
/-- a contract that nothing meets (a def that calls itself, at depth 0) -/
theorem fn_vac (F : FunD K x qual params body scope [] [] f fd) (S : FnScope N ps scope)
    (hb : ∀ (kV doc pm : Value) (an : Option Addr) (cdv ct : Value) (us : List Value), us.length = ps.length → bindArgs (PySem.W.fnOf x qual params body scope .none kV doc pm an cdv ct) ⟨us, []⟩ = pure (ps.zip us))
    (h : ∀ ws ka out, ¬ C ws ka out) : Fn P w K mg base (k + 1) f ps C :=
  ⟨fd, F.ok S (fun _ _ _ _ z => by obtain ⟨_, _, _, _, _, c, _⟩ := z; exact absurd c (h _ _ _)) (fun _ _ _ _ _ _ _ _ _ z => by obtain ⟨_, _, _, _, _, c, _⟩ := z; exact absurd c (h _ _ _)), F.bindsN hb⟩
end
section
variable {K : PySem.W.Frag} {B F0 : Hp} {ro : Ro} {ka k1 k2 k3 : Cells} {te tf : TE} {w : W}
theorem list_snoc_ind {α : Type} {P : List α → Prop} (nil : P []) (snoc : ∀ (xs : List α) (x : α), P xs → P (xs ++ [x])) (xs : List α) : P xs := by
  have key : ∀ ys : List α, P ys.reverse := by
    intro ys
    induction ys with
    | nil => exact nil
    | cons y ys ih => rw [List.reverse_cons]; exact snoc _ _ ih
  have := key xs.reverse
  rwa [List.reverse_reverse] at this
end
def Ct6 (R : W → W → W → W → W → W → Cells → Oc → Prop) : Ct := fun ws ka out => ∃ a b c d e f, ws = [a, b, c, d, e, f] ∧ R a b c d e f ka out
theorem ct6_len {R} : ∀ ws ka out, Ct6 R ws ka out → ws.length = 6 := fun _ _ _ ⟨_, _, _, _, _, _, h, _⟩ => by rw [h]; rfl
end DL

/-! EX: two own objects of one class and an operator (own work). -/
namespace DL
open PySem L2 PySem.W
/-! ### x op y, both of one class of the text -/
section
variable {X : Cx} {CX : CXT} {k : Nat} {C f : Addr} {fd : FuncData} {ps : List Str} {sp : Sp} {E : XK} {Cc : Ct}
abbrev rOwnB (C : Addr) (sp : Sp) (E : XK) : R2 := fun x y H Q => ∃ a dx fs b dy gs, x = .ref a ∧ H a = some (.ins C dx fs) ∧ y = .ref b ∧ H b = some (.ins C dy gs) ∧ sp [x, y] H Q E
theorem op_ownB {op : Operator} (o : Bo X.K C op f) (F : FnOk X.prog X.w X.K X.mg X.base CX k f fd ps sp) (hr : Room k X.A) (hb : Binds X.K fd ps []) (hx : Passes CX X E) : OpR X (binaryOp op) (rOwnB C sp E) := by
  intro pins s sg H x y v u Q I rx ry h
  obtain ⟨a, dx, fs, b, dy, gs, rfl, ha, rfl, hb2, h⟩ := h
  cases rx
  cases ry
  obtain ⟨od, J⟩ := inst_at I ha
  obtain ⟨od2, J2⟩ := inst_at I hb2
  obtain ⟨m1, hF⟩ := I.fr
  exact binop_K hF I.ok.mod.kin J J2.type o.first o.sm.at_ o.sm.fn (wpAny_mono (run_fn F hr rfl hb hx I (.cons (show RelV (.ref a) (.ref a) from rfl) (.cons (show RelV (.ref b) (.ref b) from rfl) .nil)) h) (fun u2 s2 z => cmpBack_of z) fun _ _ z => z)
theorem op_owB {op : Operator} (o : Bo X.K C op f) (F : Fn X.prog X.w X.K X.mg X.base k f ps Cc) (hr : Room k X.A) (hx : Passes (L2.CX X.prog X.w) X E) : OpR X (binaryOp op) (rOwnB C (spC X.K Cc) E) := by
  obtain ⟨fd, F, b⟩ := F
  exact op_ownB o F hr b hx
/-- x op= y -/
structure Io2 (K : PySem.W.Frag) (C : Addr) (op : Operator) (f : Addr) : Prop where
  first : selfFirst K C = true
  sm : Sm K C (dunderI op.info.2) f
/-- what is never asked for: NotImplemented, behind a test that never says so -/
def tNo : TE := fun _ _ _ => False
theorem pe_no {e : Expr} : PE X e tNo := ⟨fun _ _ _ _ _ _ h => h.elim⟩
end
/-! ### the same where what is raised may speak of the slots -/
section
variable {X : Cx} {k : Nat} {C f : Addr} {ps : List Str} {E : L2.St → XK} {Cc : Ct} {l r : Expr} {pos : Pos} {tl tr : TE}
end
/-! ### data -/
section
variable {K : PySem.W.Frag} {B F0 : Hp} {ro : Ro} {ka k1 k2 k3 kr : Cells} {ta : List (V × W)} {td te tf ty tx : TE} {De : Ends} {t u : TS} {w x y : W} {b b2 : Bool} {C : Addr} {fs gs : List (Str × D)} {d : D}
/-- an operator of two own objects, told by a word -/
theorem evr_opB {op : Operator} {Cc : Ct} {out : Oc} {E : XK} (kr : Cells) (h1 : EvD K te ro ka x k1) (h2 : EvD K tf ro k1 y (k2 ++ kr)) (l1 : Io (k2 ++ kr) x C fs b) (l2 : Io (k2 ++ kr) y C gs b2) (hC : Cc [x, y] k2 out) (ho : ∀ o k, out o k → ∃ d, o = .ret d) :
    EvR K (tOp (rOwnB C (spC K Cc) E) te tf) ro ka (fun w k => ∃ d k3, out (.ret d) k3 ∧ w = .val d ∧ k = k3 ++ kr) := fun B F0 ta sg H Q e q =>
  h1 B F0 ta sg H _ e fun u H1 e1 => h2 B F0 _ sg H1 _ e1 fun v H2 e2 => by
    obtain ⟨a, dx, xs, rfl, ha⟩ := l1.en e2 (List.mem_cons_of_mem _ List.mem_cons_self)
    obtain ⟨a2, dy, ys, rfl, ha2⟩ := l2.en e2 List.mem_cons_self
    refine ⟨a, dx, xs, a2, dy, ys, rfl, ha, rfl, ha2, sp_rel (vs := [.ref a, .ref a2]) (ws := [x, y]) (ta := ta) (e2.held fun p hp => ?_) rfl hC ho fun d k3 v3 H' o e3 => q _ _ v3 H' ⟨d, k3, o, rfl, rfl⟩ e3⟩
    rcases List.mem_append.mp hp with hp | hp
    · simp at hp
      rcases hp with rfl | rfl
      · exact List.mem_cons_of_mem _ List.mem_cons_self
      · exact List.mem_cons_self
    · exact List.mem_cons_of_mem _ (List.mem_cons_of_mem _ hp)
end
section
variable {K : PySem.W.Frag} {B F0 : Hp} {ro : Ro} {ka k1 k2 k3 kr : Cells} {ta : List (V × W)} {td te tf ty tx : TE} {De De' : Ends} {t u : TS} {w x y : W} {b b2 : Bool} {C C1 : Addr} {fs gs hs : List (Str × D)} {d : D}
end
end DL

/-! EY: patterns as trees, their words, the machine of atoms (own work). -/
namespace DL
open PySem L2 PySem.W
/-- a pattern: an atom (one of some names, or none of them), two behind one another, either, any number, one or none -/
inductive Tr where
  | at (any : Bool) (ns : List Str) | join (a b : Tr) | either (a b : Tr) | rep (a : Tr) | opt (a : Tr)
def kdS : Bool → Str
  | true => "any"
  | false => "none"
/-- as the program holds it (names a tuple), as the law holds it (names a list) -/
def Tr.d (law : Bool) : Tr → D
  | .at k ns => .tup [.str (kdS k), if law then .lst (stD ns) else .tup (stD ns)]
  | .join a b => .tup [.str "join", a.d law, b.d law]
  | .either a b => .tup [.str "either", a.d law, b.d law]
  | .rep a => .tup [.str "repeat", a.d law]
  | .opt a => .tup [.str "option", a.d law]
/-- nested operators -/
def Tr.dep : Tr → Nat
  | .at _ _ => 0
  | .join a b => max a.dep b.dep + 1
  | .either a b => max a.dep b.dep + 1
  | .rep a => a.dep + 1
  | .opt a => a.dep + 1
/-- an atom takes a name -/
def atB (p : Bool × List Str) (x : Str) : Bool := decide (x ∈ p.2) == p.1
/-- any number of words one behind another -/
inductive Str_ (P : List Str → Prop) : List Str → Prop where
  | nil : Str_ P []
  | snoc {u z : List Str} (h : Str_ P u) (hz : P z) : Str_ P (u ++ z)
/-- the words of a pattern -/
def Lg : Tr → List Str → Prop
  | .at k ns, w => ∃ x, w = [x] ∧ atB (k, ns) x = true
  | .join a b, w => ∃ u v, w = u ++ v ∧ Lg a u ∧ Lg b v
  | .either a b, w => Lg a w ∨ Lg b w
  | .rep a, w => Str_ (Lg a) w
  | .opt a, w => w = [] ∨ Lg a w
/-- the machine: atoms, first and last ones, pairs, has it the empty word -/
structure Mc where
  at_ : List (Bool × List Str)
  fi : List Nat
  la : List Nat
  pr : List (Nat × Nat)
  op : Bool
def crN (xs ys : List Nat) : List (Nat × Nat) := xs.flatMap fun x => ys.map fun y => (x, y)
theorem crN_mem {xs ys : List Nat} {x y : Nat} : (x, y) ∈ crN xs ys ↔ x ∈ xs ∧ y ∈ ys := by
  unfold crN
  rw [List.mem_flatMap]
  constructor
  · rintro ⟨a, ha, h⟩
    obtain ⟨b, hb, e⟩ := List.mem_map.mp h
    cases e
    exact ⟨ha, hb⟩
  · rintro ⟨hx, hy⟩
    exact ⟨x, hx, List.mem_map.mpr ⟨y, hy, rfl⟩⟩
def mcT : Tr → Nat → Mc
  | .at k ns, s => ⟨[(k, ns)], [s], [s], [], false⟩
  | .rep a, s => let m := mcT a s; ⟨m.at_, m.fi, m.la, m.pr ++ crN m.la m.fi, true⟩
  | .opt a, s => let m := mcT a s; ⟨m.at_, m.fi, m.la, m.pr, true⟩
  | .either a b, s => let m := mcT a s; let n := mcT b (s + m.at_.length); ⟨m.at_ ++ n.at_, m.fi ++ n.fi, m.la ++ n.la, m.pr ++ n.pr, m.op || n.op⟩
  | .join a b, s => let m := mcT a s; let n := mcT b (s + m.at_.length)
    ⟨m.at_ ++ n.at_, if m.op then m.fi ++ n.fi else m.fi, if n.op then m.la ++ n.la else n.la, m.pr ++ n.pr ++ crN m.la n.fi, m.op && n.op⟩
/-- a way through the machine that reads w and ends at an atom -/
inductive Pth (T : Nat → Str → Bool) (fi : List Nat) (pr : List (Nat × Nat)) : List Str → Nat → Prop where
  | one {a : Nat} {x : Str} (h : a ∈ fi) (t : T a x = true) : Pth T fi pr [x] a
  | more {w : List Str} {a b : Nat} {x : Str} (h : Pth T fi pr w a) (hp : (a, b) ∈ pr) (t : T b x = true) : Pth T fi pr (w ++ [x]) b
theorem Pth.ne {T : Nat → Str → Bool} {fi : List Nat} {pr : List (Nat × Nat)} {w : List Str} {a : Nat} (h : Pth T fi pr w a) : w ≠ [] := by
  cases h <;> simp
/-- atoms within lo ≤ .. < hi -/
structure McR (m : Mc) (lo hi : Nat) : Prop where
  fi : ∀ a ∈ m.fi, lo ≤ a ∧ a < hi
  la : ∀ a ∈ m.la, lo ≤ a ∧ a < hi
  pr : ∀ p ∈ m.pr, (lo ≤ p.1 ∧ p.1 < hi) ∧ lo ≤ p.2 ∧ p.2 < hi
theorem McR.wide {m : Mc} {lo hi lo' hi' : Nat} (r : McR m lo hi) (h1 : lo' ≤ lo) (h2 : hi ≤ hi') : McR m lo' hi' :=
  ⟨fun a h => by have := r.fi a h; omega, fun a h => by have := r.la a h; omega, fun p h => by have := r.pr p h; omega⟩
theorem crN_r {xs ys : List Nat} {lo hi : Nat} (hx : ∀ a ∈ xs, lo ≤ a ∧ a < hi) (hy : ∀ a ∈ ys, lo ≤ a ∧ a < hi) : ∀ p ∈ crN xs ys, (lo ≤ p.1 ∧ p.1 < hi) ∧ lo ≤ p.2 ∧ p.2 < hi := by
  rintro ⟨x, y⟩ h
  have h' := crN_mem.mp h
  exact ⟨hx x h'.1, hy y h'.2⟩
theorem mcT_r : ∀ (t : Tr) (s : Nat), McR (mcT t s) s (s + (mcT t s).at_.length)
  | .at k ns, s => ⟨fun a h => by have e : a = s := List.mem_singleton.mp h; subst e; exact ⟨Nat.le_refl _, Nat.lt_succ_self _⟩, fun a h => by have e : a = s := List.mem_singleton.mp h; subst e; exact ⟨Nat.le_refl _, Nat.lt_succ_self _⟩, fun p h => by cases h⟩
  | .rep a, s => by
    have r := mcT_r a s
    refine ⟨r.fi, r.la, fun p h => ?_⟩
    rcases List.mem_append.mp h with h | h
    · exact r.pr p h
    · exact crN_r r.la r.fi p h
  | .opt a, s => by
    have r := mcT_r a s
    exact ⟨r.fi, r.la, r.pr⟩
  | .either a b, s => by
    have r1 := mcT_r a s
    have r2 := mcT_r b (s + (mcT a s).at_.length)
    have e : (mcT (.either a b) s).at_.length = (mcT a s).at_.length + (mcT b (s + (mcT a s).at_.length)).at_.length := List.length_append
    rw [e]
    have w1 := r1.wide (lo' := s) (hi' := s + ((mcT a s).at_.length + (mcT b (s + (mcT a s).at_.length)).at_.length)) (Nat.le_refl _) (by omega)
    have w2 := r2.wide (lo' := s) (hi' := s + ((mcT a s).at_.length + (mcT b (s + (mcT a s).at_.length)).at_.length)) (by omega) (by omega)
    exact ⟨fun x h => (List.mem_append.mp h).elim (w1.fi x) (w2.fi x), fun x h => (List.mem_append.mp h).elim (w1.la x) (w2.la x), fun p h => (List.mem_append.mp h).elim (w1.pr p) (w2.pr p)⟩
  | .join a b, s => by
    have r1 := mcT_r a s
    have r2 := mcT_r b (s + (mcT a s).at_.length)
    have e : (mcT (.join a b) s).at_.length = (mcT a s).at_.length + (mcT b (s + (mcT a s).at_.length)).at_.length := List.length_append
    rw [e]
    have w1 := r1.wide (lo' := s) (hi' := s + ((mcT a s).at_.length + (mcT b (s + (mcT a s).at_.length)).at_.length)) (Nat.le_refl _) (by omega)
    have w2 := r2.wide (lo' := s) (hi' := s + ((mcT a s).at_.length + (mcT b (s + (mcT a s).at_.length)).at_.length)) (by omega) (by omega)
    refine ⟨fun x h => ?_, fun x h => ?_, fun p h => ?_⟩
    · have h : x ∈ (if (mcT a s).op then (mcT a s).fi ++ (mcT b (s + (mcT a s).at_.length)).fi else (mcT a s).fi) := h
      split at h
      · exact (List.mem_append.mp h).elim (w1.fi x) (w2.fi x)
      · exact w1.fi x h
    · have h : x ∈ (if (mcT b (s + (mcT a s).at_.length)).op then (mcT a s).la ++ (mcT b (s + (mcT a s).at_.length)).la else (mcT b (s + (mcT a s).at_.length)).la) := h
      split at h
      · exact (List.mem_append.mp h).elim (w1.la x) (w2.la x)
      · exact w2.la x h
    · rcases List.mem_append.mp h with h | h
      · exact (List.mem_append.mp h).elim (w1.pr p) (w2.pr p)
      · exact crN_r w1.la w2.fi p h
section
variable {T : Nat → Str → Bool} {fi fi2 fi' : List Nat} {pr pr2 pr' : List (Nat × Nat)} {w u v : List Str} {a c : Nat}
theorem Pth.mono (h : Pth T fi pr w c) (h1 : ∀ a ∈ fi, a ∈ fi') (h2 : ∀ p ∈ pr, p ∈ pr') : Pth T fi' pr' w c := by
  induction h with
  | one h t => exact .one (h1 _ h) t
  | more h hp t ih => exact .more ih (h2 _ hp) t
theorem Pth.res {R : Nat → Prop} (h : Pth T fi' pr' w c) (h1 : ∀ a ∈ fi', R a → a ∈ fi) (h2 : ∀ a b, (a, b) ∈ pr' → R b → (a, b) ∈ pr ∧ R a) (hc : R c) : Pth T fi pr w c := by
  induction h with
  | one h t => exact .one (h1 _ h hc) t
  | more h hp t ih => exact .more (ih (h2 _ _ hp hc).2) (h2 _ _ hp hc).1 t
theorem Pth.cat (h : Pth T fi' pr' u a) (h1 : ∀ b ∈ fi2, (a, b) ∈ pr') (h2 : ∀ p ∈ pr2, p ∈ pr') (g : Pth T fi2 pr2 v c) : Pth T fi' pr' (u ++ v) c := by
  induction g with
  | one hb t => exact .more h (h1 _ hb) t
  | more g hp t ih =>
    rw [← List.append_assoc]
    exact .more ih (h2 _ hp) t
end
theorem glu : ∀ (t : Tr) (s : Nat) (T : Nat → Str → Bool), (∀ i p, (mcT t s).at_[i]? = some p → ∀ x, T (s + i) x = atB p x) → ∀ w, Lg t w ↔ (w = [] ∧ (mcT t s).op = true) ∨ ∃ a ∈ (mcT t s).la, Pth T (mcT t s).fi (mcT t s).pr w a
  | .at k ns, s, T, hT, w => by
    have t0 : ∀ x, T s x = atB (k, ns) x := hT 0 (k, ns) rfl
    constructor
    · rintro ⟨x, rfl, h⟩
      exact .inr ⟨s, List.mem_singleton.mpr rfl, .one (List.mem_singleton.mpr rfl) (by rw [t0]; exact h)⟩
    · rintro (⟨_, h⟩ | ⟨a, ha, h⟩)
      · cases h
      · cases h with
        | one h1 t =>
          have e : a = s := List.mem_singleton.mp h1
          subst e
          exact ⟨_, rfl, by rw [← t0]; exact t⟩
        | more h hp t => cases hp
  | .opt a, s, T, hT, w => by
    have ih := glu a s T hT w
    constructor
    · rintro (rfl | h)
      · exact .inl ⟨rfl, rfl⟩
      · rcases ih.mp h with ⟨rfl, _⟩ | h
        · exact .inl ⟨rfl, rfl⟩
        · exact .inr h
    · rintro (⟨rfl, _⟩ | h)
      · exact .inl rfl
      · exact .inr (ih.mpr (.inr h))
  | .either a b, s, T, hT, w => by
    have r1 := mcT_r a s
    have r2 := mcT_r b (s + (mcT a s).at_.length)
    have ih1 := glu a s T (fun i p h => hT i p (by
      show ((mcT a s).at_ ++ _)[i]? = some p
      rw [List.getElem?_append_left (List.getElem?_eq_some_iff.mp h).1]; exact h)) w
    have ih2 := glu b (s + (mcT a s).at_.length) T (fun i p h x => by
      rw [Nat.add_assoc]
      refine hT _ p ?_ x
      show ((mcT a s).at_ ++ _)[_]? = some p
      rw [List.getElem?_append_right (by omega), Nat.add_sub_cancel_left]; exact h) w
    constructor
    · rintro (h | h)
      · rcases ih1.mp h with ⟨rfl, o⟩ | ⟨c, hc, h⟩
        · exact .inl ⟨rfl, by show ((mcT a s).op || _) = true; rw [o]; rfl⟩
        · exact .inr ⟨c, List.mem_append_left _ hc, h.mono (fun _ => List.mem_append_left _) fun _ => List.mem_append_left _⟩
      · rcases ih2.mp h with ⟨rfl, o⟩ | ⟨c, hc, h⟩
        · exact .inl ⟨rfl, by show (_ || (mcT b (s + (mcT a s).at_.length)).op) = true; rw [o]; exact Bool.or_true _⟩
        · exact .inr ⟨c, List.mem_append_right _ hc, h.mono (fun _ => List.mem_append_right _) fun _ => List.mem_append_right _⟩
    · rintro (⟨rfl, o⟩ | ⟨c, hc, h⟩)
      · rcases Bool.or_eq_true_iff.mp (show ((mcT a s).op || (mcT b (s + (mcT a s).at_.length)).op) = true from o) with o | o
        · exact .inl (ih1.mpr (.inl ⟨rfl, o⟩))
        · exact .inr (ih2.mpr (.inl ⟨rfl, o⟩))
      · rcases List.mem_append.mp hc with hc | hc
        · refine .inl (ih1.mpr (.inr ⟨c, hc, h.res (R := fun x => x < s + (mcT a s).at_.length) (fun x hx lt => ?_) (fun x y hp lt => ?_) (r1.la c hc).2⟩))
          · exact (List.mem_append.mp hx).elim id fun z => absurd (r2.fi x z).1 (by omega)
          · rcases List.mem_append.mp hp with hp | hp
            · exact ⟨hp, (r1.pr _ hp).1.2⟩
            · exact absurd (r2.pr _ hp).2.1 (by show ¬ _ ≤ y; omega)
        · refine .inr (ih2.mpr (.inr ⟨c, hc, h.res (R := fun x => s + (mcT a s).at_.length ≤ x) (fun x hx le => ?_) (fun x y hp le => ?_) (r2.la c hc).1⟩))
          · exact (List.mem_append.mp hx).elim (fun z => absurd (r1.fi x z).2 (by omega)) id
          · rcases List.mem_append.mp hp with hp | hp
            · exact absurd (r1.pr _ hp).2.2 (by show ¬ y < _; omega)
            · exact ⟨hp, (r2.pr _ hp).1.1⟩
  | .rep a, s, T, hT, w => by
    have ih := glu a s T hT
    have up : ∀ {u : List Str} {c : Nat}, Pth T (mcT a s).fi (mcT a s).pr u c → Pth T (mcT a s).fi ((mcT a s).pr ++ crN (mcT a s).la (mcT a s).fi) u c := fun h => h.mono (fun _ z => z) fun _ z => List.mem_append_left _ z
    have fwd : ∀ {u : List Str}, Str_ (Lg a) u → u = [] ∨ ∃ c ∈ (mcT a s).la, Pth T (mcT a s).fi ((mcT a s).pr ++ crN (mcT a s).la (mcT a s).fi) u c := fun h => by
      induction h with
      | nil => exact .inl rfl
      | @snoc u z h hz ihu =>
        rcases (ih z).mp hz with ⟨rfl, _⟩ | ⟨c, hc, pz⟩
        · rw [List.append_nil]
          exact ihu
        · rcases ihu with rfl | ⟨d, hd, pu⟩
          · exact .inr ⟨c, hc, by rw [List.nil_append]; exact up pz⟩
          · exact .inr ⟨c, hc, pu.cat (fun b hb => List.mem_append_right _ (crN_mem.mpr ⟨hd, hb⟩)) (fun _ z => List.mem_append_left _ z) pz⟩
    have back : ∀ {u : List Str} {c : Nat}, Pth T (mcT a s).fi ((mcT a s).pr ++ crN (mcT a s).la (mcT a s).fi) u c → ∃ u1 u2, u = u1 ++ u2 ∧ Str_ (Lg a) u1 ∧ Pth T (mcT a s).fi (mcT a s).pr u2 c := fun h => by
      induction h with
      | one h t => exact ⟨[], _, rfl, .nil, .one h t⟩
      | @more w x y z h hp t ihw =>
        obtain ⟨u1, u2, rfl, s1, p2⟩ := ihw
        rcases List.mem_append.mp hp with hp | hp
        · exact ⟨u1, u2 ++ [z], List.append_assoc _ _ _, s1, .more p2 hp t⟩
        · have hp' := crN_mem.mp hp
          exact ⟨u1 ++ u2, [z], rfl, .snoc s1 ((ih u2).mpr (.inr ⟨x, hp'.1, p2⟩)), .one hp'.2 t⟩
    constructor
    · intro h
      rcases fwd h with rfl | h
      · exact .inl ⟨rfl, rfl⟩
      · exact .inr h
    · rintro (⟨rfl, _⟩ | ⟨c, hc, h⟩)
      · exact .nil
      · obtain ⟨u1, u2, rfl, s1, p2⟩ := back h
        exact .snoc s1 ((ih u2).mpr (.inr ⟨c, hc, p2⟩))
  | .join a b, s, T, hT, w => by
    have r1 := mcT_r a s
    have r2 := mcT_r b (s + (mcT a s).at_.length)
    have ih1 := glu a s T (fun i p h => hT i p (by
      show ((mcT a s).at_ ++ _)[i]? = some p
      rw [List.getElem?_append_left (List.getElem?_eq_some_iff.mp h).1]; exact h))
    have ih2 := glu b (s + (mcT a s).at_.length) T (fun i p h x => by
      rw [Nat.add_assoc]
      refine hT _ p ?_ x
      show ((mcT a s).at_ ++ _)[_]? = some p
      rw [List.getElem?_append_right (by omega), Nat.add_sub_cancel_left]; exact h)
    generalize hm : mcT a s = m at *
    generalize hn : mcT b (s + m.at_.length) = n at *
    have eF : (mcT (.join a b) s).fi = if m.op then m.fi ++ n.fi else m.fi := by subst hm hn; rfl
    have eL : (mcT (.join a b) s).la = if n.op then m.la ++ n.la else n.la := by subst hm hn; rfl
    have eP : (mcT (.join a b) s).pr = m.pr ++ n.pr ++ crN m.la n.fi := by subst hm hn; rfl
    have eO : (mcT (.join a b) s).op = (m.op && n.op) := by subst hm hn; rfl
    rw [eF, eL, eP, eO]
    have inF : ∀ x ∈ m.fi, x ∈ (if m.op then m.fi ++ n.fi else m.fi) := fun x h => by
      split
      · exact List.mem_append_left _ h
      · exact h
    have upA : ∀ {u : List Str} {c : Nat}, Pth T m.fi m.pr u c → Pth T (if m.op then m.fi ++ n.fi else m.fi) (m.pr ++ n.pr ++ crN m.la n.fi) u c := fun h => h.mono inF fun _ z => List.mem_append_left _ (List.mem_append_left _ z)
    have inB : ∀ x ∈ n.la, x ∈ (if n.op then m.la ++ n.la else n.la) := fun x h => by
      split
      · exact List.mem_append_right _ h
      · exact h
    have low : ∀ {u : List Str} {c : Nat}, c < s + m.at_.length → Pth T (if m.op then m.fi ++ n.fi else m.fi) (m.pr ++ n.pr ++ crN m.la n.fi) u c → Pth T m.fi m.pr u c := fun hc h => h.res (R := fun x => x < s + m.at_.length) (fun x hx lt => by
        split at hx
        · exact (List.mem_append.mp hx).elim id fun z => absurd (r2.fi x z).1 (by omega)
        · exact hx) (fun x y hp lt => by
        rcases List.mem_append.mp hp with hp | hp
        · rcases List.mem_append.mp hp with hp | hp
          · exact ⟨hp, (r1.pr _ hp).1.2⟩
          · exact absurd (r2.pr _ hp).2.1 (by show ¬ _ ≤ y; omega)
        · exact absurd (r2.fi y (crN_mem.mp hp).2).1 (by omega)) hc
    have high : ∀ {u : List Str} {c : Nat}, Pth T (if m.op then m.fi ++ n.fi else m.fi) (m.pr ++ n.pr ++ crN m.la n.fi) u c → s + m.at_.length ≤ c → ∃ u1 u2, u = u1 ++ u2 ∧ Lg a u1 ∧ Pth T n.fi n.pr u2 c := fun h => by
      induction h with
      | @one x y h t =>
        intro le
        split at h
        · rename_i o
          rcases List.mem_append.mp h with h | h
          · exact absurd (r1.fi x h).2 (by omega)
          · exact ⟨[], _, rfl, (ih1 []).mpr (.inl ⟨rfl, o⟩), .one h t⟩
        · exact absurd (r1.fi x h).2 (by omega)
      | @more w x y z h hp t ihw =>
        intro le
        rcases List.mem_append.mp hp with hp | hp
        · rcases List.mem_append.mp hp with hp | hp
          · exact absurd (r1.pr _ hp).2.2 (by show ¬ y < _; omega)
          · obtain ⟨u1, u2, rfl, l1, p2⟩ := ihw (r2.pr _ hp).1.1
            exact ⟨u1, u2 ++ [z], List.append_assoc _ _ _, l1, .more p2 hp t⟩
        · have hp' := crN_mem.mp hp
          exact ⟨w, [z], rfl, (ih1 w).mpr (.inr ⟨x, hp'.1, low (r1.la x hp'.1).2 h⟩), .one hp'.2 t⟩
    constructor
    · rintro ⟨u, v, rfl, hu, hv⟩
      rcases (ih1 u).mp hu with ⟨rfl, o1⟩ | ⟨c, hc, pu⟩
      · rcases (ih2 v).mp hv with ⟨rfl, o2⟩ | ⟨d, hd, pv⟩
        · exact .inl ⟨rfl, by rw [o1, o2]; rfl⟩
        · refine .inr ⟨d, inB d hd, ?_⟩
          rw [List.nil_append]
          refine pv.mono (fun x h => ?_) fun _ z => List.mem_append_left _ (List.mem_append_right _ z)
          rw [if_pos o1]
          exact List.mem_append_right _ h
      · rcases (ih2 v).mp hv with ⟨rfl, o2⟩ | ⟨d, hd, pv⟩
        · refine .inr ⟨c, ?_, by rw [List.append_nil]; exact upA pu⟩
          rw [if_pos o2]
          exact List.mem_append_left _ hc
        · exact .inr ⟨d, inB d hd, (upA pu).cat (fun b hb => List.mem_append_right _ (crN_mem.mpr ⟨hc, hb⟩)) (fun _ z => List.mem_append_left _ (List.mem_append_right _ z)) pv⟩
    · rintro (⟨rfl, o⟩ | ⟨c, hc, h⟩)
      · obtain ⟨o1, o2⟩ := Bool.and_eq_true_iff.mp o
        exact ⟨[], [], rfl, (ih1 []).mpr (.inl ⟨rfl, o1⟩), (ih2 []).mpr (.inl ⟨rfl, o2⟩)⟩
      · have two : c ∈ n.la → Lg (.join a b) w := fun hc => by
          obtain ⟨u1, u2, rfl, l1, p2⟩ := high h (r2.la c hc).1
          exact ⟨u1, u2, rfl, l1, (ih2 u2).mpr (.inr ⟨c, hc, p2⟩)⟩
        split at hc
        · rename_i o2
          rcases List.mem_append.mp hc with hc | hc
          · exact ⟨w, [], (List.append_nil w).symm, (ih1 w).mpr (.inr ⟨c, hc, low (r1.la c hc).2 h⟩), (ih2 []).mpr (.inl ⟨rfl, o2⟩)⟩
          · exact two hc
        · exact two hc
/-! ### the machine run -/
def tkM (m : Mc) (a : Nat) (x : Str) : Bool := match m.at_[a]? with
  | some p => atB p x
  | none => false
def behM (m : Mc) (ps : List Nat) (a : Nat) : Bool := ps.any fun p => decide ((p, a) ∈ m.pr)
def startM (m : Mc) (x : Str) : List Nat := m.fi.filter fun a => tkM m a x
def afterM (m : Mc) (ps : List Nat) (x : Str) : List Nat := (List.range m.at_.length).filter fun a => tkM m a x && behM m ps a
def doneM (m : Mc) (ps : List Nat) : Bool := ps.any fun p => decide (p ∈ m.la)
def runM (m : Mc) : List Str → List Nat
  | [] => []
  | x :: r => r.foldl (afterM m) (startM m x)
def accM (m : Mc) (w : List Str) : Bool := if w = [] then m.op else doneM m (runM m w)
theorem tkM_lt {m : Mc} {a : Nat} {x : Str} (h : tkM m a x = true) : a < m.at_.length := by
  unfold tkM at h
  cases e : m.at_[a]? with
  | none => rw [e] at h; cases h
  | some p => exact (List.getElem?_eq_some_iff.mp e).1
theorem after_mem {m : Mc} {ps : List Nat} {x : Str} {b : Nat} : b ∈ afterM m ps x ↔ tkM m b x = true ∧ ∃ a ∈ ps, (a, b) ∈ m.pr := by
  unfold afterM
  rw [List.mem_filter, List.mem_range, Bool.and_eq_true, behM, List.any_eq_true]
  constructor
  · rintro ⟨_, h1, a, ha, h2⟩
    exact ⟨h1, a, ha, of_decide_eq_true h2⟩
  · rintro ⟨h1, a, ha, h2⟩
    exact ⟨tkM_lt h1, h1, a, ha, decide_eq_true h2⟩
theorem run_snoc {m : Mc} {w : List Str} {x : Str} (h : w ≠ []) : runM m (w ++ [x]) = afterM m (runM m w) x := by
  cases w with
  | nil => exact absurd rfl h
  | cons y r =>
    show (r ++ [x]).foldl _ _ = _
    rw [List.foldl_append]
    rfl
theorem run_mem {m : Mc} : ∀ {w : List Str} {a : Nat}, w ≠ [] → (a ∈ runM m w ↔ Pth (tkM m) m.fi m.pr w a) := fun {w} => by
  induction w using list_snoc_ind with
  | nil => intro a h; exact absurd rfl h
  | snoc w x ih =>
    intro a _
    by_cases e : w = []
    · subst e
      show a ∈ m.fi.filter _ ↔ _
      rw [List.mem_filter]
      constructor
      · rintro ⟨h1, h2⟩
        exact .one h1 h2
      · intro h
        generalize hw : [] ++ [x] = u at h
        cases h with
        | one h t => cases hw; exact ⟨h, t⟩
        | more h hp t => exact absurd (List.append_inj_left' hw rfl).symm h.ne
    · rw [run_snoc e, after_mem]
      constructor
      · rintro ⟨h1, b, hb, h2⟩
        exact .more ((ih e).mp hb) h2 h1
      · intro h
        generalize hw : w ++ [x] = u at h
        cases h with
        | one h t =>
          have z := List.append_inj_left' (hw.trans (List.nil_append _).symm) rfl
          exact absurd z e
        | more h hp t =>
          have z1 := List.append_inj_left' hw rfl
          have z2 := List.append_inj_right' hw rfl
          cases z2
          subst z1
          exact ⟨t, _, (ih e).mpr h, hp⟩
theorem acc_iff {t : Tr} {w : List Str} : accM (mcT t 0) w = true ↔ Lg t w := by
  rw [glu t 0 (tkM (mcT t 0)) (fun i p h x => by unfold tkM; rw [Nat.zero_add, h]) w]
  unfold accM
  by_cases e : w = []
  · subst e
    rw [if_pos rfl]
    constructor
    · intro h
      exact .inl ⟨rfl, h⟩
    · rintro (⟨_, h⟩ | ⟨a, _, h⟩)
      · exact h
      · exact absurd rfl h.ne
  · rw [if_neg e, doneM, List.any_eq_true]
    constructor
    · rintro ⟨a, ha, h⟩
      exact .inr ⟨a, of_decide_eq_true h, (run_mem e).mp ha⟩
    · rintro (⟨z, _⟩ | ⟨a, ha, h⟩)
      · exact absurd z e
      · exact ⟨a, (run_mem e).mpr h, decide_eq_true ha⟩
end DL

/-! EZ: pairs of numbers as keys (own work). -/
namespace DL
open PySem L2 PySem.W
/-! ### data: keys are pairs of numbers -/
theorem noP_ok {K : PySem.W.Frag} (h : fNoP K = true) : NoP K := fun a o its n hl hc hd => by
  have hm : ∀ {K : PySem.W.Frag}, K.lookup a = some o → (a, o) ∈ K := fun {K} => by
    induction K with
    | nil => intro h; cases h
    | cons p r ih =>
      obtain ⟨b, x⟩ := p
      intro h
      rw [List.lookup_cons] at h
      split at h
      · rename_i q
        cases h
        rw [beq_iff_eq.mp q]
        exact List.mem_cons_self
      · exact List.mem_cons_of_mem _ (ih h)
  have := List.all_eq_true.mp h _ (hm hl)
  obtain ⟨cls, dict, data, sl⟩ := o
  cases hc
  cases hd
  have t : (!(decide (("tuple" : String) = "tuple") && isII its.toList)) = true := this
  cases e : isII its.toList with
  | false => rfl
  | true => rw [e] at t; cases t
section
variable {K : PySem.W.Frag} {B F F0 : Hp} {ro : Ro} {ka k1 k2 k3 kr : Cells} {ta : List (V × W)} {sg : L2.St} {H H' : Hp} {te tf tg td ty tk tv : TE} {tt : TT} {w : W} {a : Addr} {b : Bool}
theorem sq_pair {i j : Int} (np : NoP K) (h : SqT K F a [.int i, .int j]) : Rd F a (.tup [.int i, .int j]) := by
  rcases h with h | ⟨o, its, n, h1, h2, h3, _, h4⟩
  · exact h
  · exfalso
    have z := np a o its n h1 h2 h3
    generalize its.toList = l at z h4
    cases h4 with
    | cons r1 t =>
      cases t with
      | cons r2 t2 =>
        cases t2
        obtain ⟨_, rfl⟩ := r1
        obtain ⟨_, rfl⟩ := r2
        cases z
theorem rd_tup {xs : List V} (n : Nz F) (e : Exz F H) (h : Rd F a (.tup xs)) : H a = some (.tup xs) := by
  rcases h with h | ⟨o, h⟩
  · exact e.at h rfl
  · have := n a _ h
    cases this
/-- a pair of numbers as a key -/
def prK (p : Nat × Nat) : List Key := [.inl (p.1 : Int), .inl (p.2 : Int)]
def prD (p : Nat × Nat) : D := .tup [.int (p.1 : Int), .int (p.2 : Int)]
theorem pr_at {p : Nat × Nat} {v : V} (np : NoP K) (e : EnF K B F ro ka ta sg H) (h : WOk K B F v (.val (prD p))) : ∃ a, v = .ref a ∧ H a = some (.tup ((prK p).map kV)) := by
  obtain ⟨a, xs, rfl, h1, x, ys, rfl, hx, y, zs, rfl, hy, hz⟩ := h
  cases hx
  cases hy
  cases hz
  exact ⟨a, rfl, rd_tup e.nz e.fz (sq_pair np h1)⟩
/-- (i, j) in d -/
theorem ev_dinP {p : Nat × Nat} {ds : List (List Key × D)} (np : NoP K) (h : EvD K ty ro ka (.val (prD p)) k1) (h2 : EvD K td ro k1 (.val (.dit ds)) k2) : EvD K (tDIn ty td) ro ka (.val (.bl (getT ds (prK p)).isSome)) k2 := fun B F0 ta sg H Q e q =>
  h B F0 ta sg H _ e fun u H1 e1 => h2 B F0 _ sg H1 _ e1 fun v H2 e2 => by
    obtain ⟨F, g, ef⟩ := id e2
    obtain ⟨c, rfl, hc⟩ := pr_at np ef (ef.tm (u, .val (prD p)) (List.mem_cons_of_mem _ List.mem_cons_self))
    obtain ⟨a, xs, rfl, h3, h4⟩ := ef.tm (v, .val (.dit ds)) List.mem_cons_self
    have hg := (rpt_pt.mp h4).get (prK p)
    refine ⟨a, getT xs (prK p), rfl, .inr ⟨xs, prK p, c, ef.fz.rd ef.nz h3, rfl, hc, rfl⟩, q _ _ ?_⟩
    have e5 := (e2.held (ta' := ta) fun p hp => List.mem_cons_of_mem _ (List.mem_cons_of_mem _ hp)).push_imm (v := .bl (getT xs (prK p)).isSome) (w := .val (.bl (getT xs (prK p)).isSome)) fun _ => rfl
    cases hd : getT ds (prK p) with
    | none => rw [hg.1 hd] at e5 ⊢; exact e5
    | some d =>
      obtain ⟨x, hx, _⟩ := hg.2 d hd
      rw [hx] at e5 ⊢
      exact e5
end
end DL

/-! FA: a list comprehension with two fors, by data, for the library's reading tLc2 (own work). -/
namespace DL
open PySem L2 PySem.W
section
variable {K : PySem.W.Frag} {B F F0 : Hp} {ro : Ro} {ka k1 k2 k3 kr : Cells} {ta : List (V × W)} {sg : L2.St} {H H' : Hp} {te : TE}
/-- [d x y for x in .. for y in ..] -/
theorem evn_lc2 {α β : Type} {wi wi2 : TI} {xs : List α} {ys : List β} {f : α → W} {f2 : β → W} {d : α → β → D} {j j2 : Nat} {vs : List Nat} (h : EvI K wi ro ka (xs.map f) (fun _ => True) k1) (hj : j ∈ vs) (few : xs.length * ys.length < 100000)
    (h2 : ∀ x k, EvI K wi2 ((wipeR ro vs).set j (some (f x))) k (ys.map f2) (fun _ => True) k) (he : ∀ x y k, EvD K te (((wipeR ro vs).set j (some (f x))).set j2 (some (f2 y))) k (.val (d x y)) k) :
    EvN K (tLc2 wi (gName j) tYes wi2 (gName j2) tYes te vs [j2]) ro ka (.lst (xs.flatMap fun x => ys.map (d x))) k1 := fun B F0 ta sg H Q e q =>
  h B F0 ta sg H _ e fun J ta' H1 hta e1 hgo hst => fun Dl hD => by
    let acc : Nat → List D := fun i => (xs.take i).flatMap fun x => ys.map (d x)
    have alen : ∀ i, (acc i).length = (xs.take i).length * ys.length := fun i => by
      show ((xs.take i).flatMap fun x => ys.map (d x)).length = _
      generalize xs.take i = zs
      induction zs with
      | nil => simp
      | cons z zs ih =>
        rw [List.flatMap_cons, List.length_append, ih, List.length_map, List.length_cons, Nat.succ_mul]
        omega
    let P : Nat → Hp → Prop := fun i H => En K B F0 ro (k1 ++ [(Dl, .lst (acc i))]) ta' sg H
    have p0 : P 0 (upd H1 Dl (.lst [])) := by
      obtain ⟨F, g, e1⟩ := e1
      exact ⟨F, g, e1.cell (o := .lst []) hD (n := .lst []) ⟨[], upd_same, rfl⟩⟩
    have wl : (xs.map f).length = xs.length := List.length_map _
    have yl : (ys.map f2).length = ys.length := List.length_map _
    refine ⟨fun i m H => m = xs.length - i ∧ i ≤ xs.length ∧ P i H, ⟨xs.length, by simp, Nat.zero_le _, p0⟩, ?_⟩
    rintro i m H2 ⟨rfl, hi, e2⟩
    by_cases hlt : i < xs.length
    · have hx := List.getElem?_eq_getElem hlt
      generalize xs[i] = x at hx
      have hw : (xs.map f)[i]? = some (f x) := by rw [List.getElem?_map, hx]; rfl
      obtain ⟨g1, g2⟩ := hgo i _ ro (k1 ++ [(Dl, .lst (acc i))]) ta' sg H2 hw trivial (fun p hp => hp) e2
      refine .inr ⟨g1, P (i + 1), fun H' z => ⟨xs.length - (i + 1), by omega, rfl, hlt, z⟩, fun xv H3 y => ?_⟩
      have e3 := g2 xv H3 y
      refine ⟨wipe_set sg vs hj xv, ?_⟩
      obtain ⟨F3, gF3, eF3⟩ := e3
      have ln0 : sg.length = ro.length := by obtain ⟨_, _, e0⟩ := e; exact e0.ln
      have slots : ∀ {F : Hp}, Gr B F3 F → ∀ (a : Nat) w, ro[a]? = some (some w) → ∃ v, sg[a]? = some (some v) ∧ WOk K B F v w := fun {F} g a w ha => by
        obtain ⟨v, h1, h2⟩ := eF3.sl a w ha
        exact ⟨v, h1, wok_gr eF3.nz g h2⟩
      have e4 : En K B F3 ((wipeR ro vs).set j (some (f x))) (k1 ++ [(Dl, .lst (acc i))]) ta' ((wipe sg vs).set j (some xv)) H3 :=
        ⟨F3, Gr.refl _ _, ((wipe_en (vs := vs) eF3).set (eF3.tm _ List.mem_cons_self) j).held fun p hp => List.mem_cons_of_mem _ hp⟩
      show wi2 _ _ _
      refine h2 x _ B F3 ta' _ H3 _ e4 fun J2 ta2 H4 hta2 e5 hgo2 hst2 => ?_
      let P2 : Nat → Hp → Prop := fun n H => En K B F3 ((wipeR ro vs).set j (some (f x))) (k1 ++ [(Dl, .lst (acc i ++ (ys.take n).map (d x)))]) ta2 ((wipe sg vs).set j (some xv)) H
      have q0 : P2 0 H4 := by
        show En _ _ _ _ (k1 ++ [(Dl, .lst (acc i ++ []))]) _ _ _
        rw [List.append_nil]
        exact e5
      refine ⟨fun n m H => m = ys.length - n ∧ n ≤ ys.length ∧ P2 n H, ⟨ys.length, by simp, Nat.zero_le _, q0⟩, ?_⟩
      rintro n m2 H5 ⟨rfl, hn, e6⟩
      by_cases hlt2 : n < ys.length
      · have hy := List.getElem?_eq_getElem hlt2
        generalize ys[n] = y at hy
        have hw2 : (ys.map f2)[n]? = some (f2 y) := by rw [List.getElem?_map, hy]; rfl
        obtain ⟨g3, g4⟩ := hgo2 n _ _ _ ta2 _ H5 hw2 trivial (fun p hp => hp) e6
        refine .inr ⟨g3, P2 (n + 1), fun H' z => ⟨ys.length - (n + 1), by omega, rfl, hlt2, z⟩, fun yv H6 yy => ?_⟩
        obtain ⟨F4, gF4, eF4⟩ := g4 yv H6 yy
        refine ⟨wipe_set _ [j2] List.mem_cons_self yv, ?_⟩
        have e7 : En K B F4 (((wipeR ro vs).set j (some (f x))).set j2 (some (f2 y))) (k1 ++ [(Dl, .lst (acc i ++ (ys.take n).map (d x)))]) ta2 ((wipe ((wipe sg vs).set j (some xv)) [j2]).set j2 (some yv)) H6 := by
          have z : En K B F4 ((wipeR ((wipeR ro vs).set j (some (f x))) [j2]).set j2 (some (f2 y))) (k1 ++ [(Dl, .lst (acc i ++ (ys.take n).map (d x)))]) ta2 ((wipe ((wipe sg vs).set j (some xv)) [j2]).set j2 (some yv)) H6 :=
            ⟨F4, Gr.refl _ _, ((wipe_en (vs := [j2]) eF4).set (eF4.tm _ List.mem_cons_self) j2).held fun p hp => List.mem_cons_of_mem _ hp⟩
          have q : (wipeR ((wipeR ro vs).set j (some (f x))) [j2]).set j2 (some (f2 y)) = ((wipeR ro vs).set j (some (f x))).set j2 (some (f2 y)) := List.set_set ..
          exact q ▸ z
        show te _ _ _
        refine he x y _ B F4 ta2 _ H6 _ e7 fun z H7 ⟨F5, g5, e8⟩ => ?_
        have hc : (k1 ++ [(Dl, Nd.lst (acc i ++ (ys.take n).map (d x)))])[k1.length]? = some (Dl, Nd.lst (acc i ++ (ys.take n).map (d x))) := by simp
        obtain ⟨zs, h3, h4⟩ := (e8.ce _ (List.mem_of_getElem? hc)).2.2
        have hz := e8.tm (z, .val (d x y)) List.mem_cons_self
        have e9 := e8.write (o := .lst (zs ++ [z])) (n' := .lst (acc i ++ (ys.take n).map (d x) ++ [d x y])) hc ⟨_, upd_same, rpl_app h4 ⟨z, [], rfl, hz, rfl⟩⟩
        rw [List.set_append_right _ _ (Nat.le_refl _), Nat.sub_self] at e9
        have grow : acc i ++ (ys.take (n + 1)).map (d x) = acc i ++ (ys.take n).map (d x) ++ [d x y] := by
          rw [take_succ_some hy, List.map_append, List.append_assoc]
          rfl
        refine ⟨zs, h3, ?_, ?_⟩
        · have l1 := rpl_len h4
          have l2 := alen i
          rw [List.length_append, List.length_map, List.length_take] at l1
          rw [List.length_take] at l2
          have l3 : i * ys.length + ys.length ≤ xs.length * ys.length := by
            rw [← Nat.succ_mul]
            exact Nat.mul_le_mul_right _ hlt
          have l4 : min i xs.length = i := Nat.min_eq_left hi
          rw [l4] at l2
          have big : 100000 ≤ sizeLine := by decide
          omega
        · show En _ _ _ _ (k1 ++ [(Dl, .lst (acc i ++ (ys.take (n + 1)).map (d x)))]) _ _ _
          rw [grow]
          exact ⟨F5, gF4.trans g5, (e9.held (ta' := ta2) fun p hp => List.mem_cons_of_mem _ hp).frame (by obtain ⟨_, _, e0⟩ := e4; exact e0.ln) fun a w ha => by
            obtain ⟨v, h5, h6⟩ := eF4.sl a w ha
            exact ⟨v, h5, wok_gr eF4.nz g5 h6⟩⟩
      · have en : n = ys.length := by omega
        subst en
        refine .inl ⟨hst2 _ _ _ ta2 _ H5 (by rw [yl]; exact Nat.le_refl _) trivial (fun p hp => hp) e6, ?_⟩
        have grow : acc (i + 1) = acc i ++ (ys.take ys.length).map (d x) := by
          show (xs.take (i + 1)).flatMap _ = _
          rw [take_succ_some hx, List.flatMap_append, List.take_length]
          simp
          rfl
        show En _ _ _ _ (k1 ++ [(Dl, .lst (acc (i + 1)))]) _ _ _
        rw [grow]
        obtain ⟨F6, g6, e10⟩ := e6
        exact ⟨F6, gF3.trans g6, (e10.held (ta' := ta') hta2).frame ln0 (slots g6)⟩
    · have ei : i = xs.length := by omega
      subst ei
      have all : acc xs.length = xs.flatMap fun x => ys.map (d x) := by
        show (xs.take xs.length).flatMap _ = _
        rw [List.take_length]
      have e2' : En K B F0 ro (k1 ++ [(Dl, .lst (acc xs.length))]) ta' sg H2 := e2
      rw [all] at e2'
      exact .inl ⟨hst _ ro _ ta' sg H2 (by rw [wl]; exact Nat.le_refl _) trivial (fun p hp => hp) e2, q Dl H2 (e2'.held hta)⟩
end
end DL

/-! FB: machines as data (own work). -/
namespace DL
open PySem L2 PySem.W
def nmD (xs : List Nat) : List D := xs.map fun n : Nat => D.int (n : Int)
def atD (p : Bool × List Str) : D := .tup [.bl p.1, .tup (stD p.2)]
/-- what reading a tree tells -/
def rdT (m : Mc) : D := .tup [.lst (m.at_.map atD), .lst (nmD m.fi), .lst (nmD m.la), .lst (m.pr.map prD), .bl m.op]
def prsD (ps : List (Nat × Nat)) : List (List Key × D) := ps.foldl (fun acc p => putT acc (prK p) (D.bl true)) []
structure Fits (m : Mc) : Prop where
  a : m.at_.length ≤ 300
  f : m.fi.length ≤ 300
  l : m.la.length ≤ 300
  p : m.pr.length ≤ 90000
/-- a pattern small enough for its machine, and so are its parts -/
def Tr.sm : Tr → Prop
  | .at k ns => ns.length ≤ 1000
  | .join a b => a.sm ∧ b.sm ∧ ∀ s, Fits (mcT (.join a b) s)
  | .either a b => a.sm ∧ b.sm ∧ ∀ s, Fits (mcT (.either a b) s)
  | .rep a => a.sm ∧ ∀ s, Fits (mcT (.rep a) s)
  | .opt a => a.sm ∧ ∀ s, Fits (mcT (.opt a) s)
theorem Tr.sm.fits {t : Tr} (h : t.sm) (s : Nat) : Fits (mcT t s) := by
  cases t with
  | «at» k ns => exact ⟨by show 1 ≤ 300; decide, by show 1 ≤ 300; decide, by show 1 ≤ 300; decide, by show 0 ≤ 90000; decide⟩
  | join a b => exact h.2.2 s
  | either a b => exact h.2.2 s
  | rep a => exact h.2 s
  | opt a => exact h.2 s
/-! sizes -/
def Tr.ats : Tr → Nat
  | .at _ _ => 1
  | .join a b => a.ats + b.ats
  | .either a b => a.ats + b.ats
  | .rep a => a.ats
  | .opt a => a.ats
def Tr.ops : Tr → Nat
  | .at _ _ => 0
  | .join a b => a.ops + b.ops + 1
  | .either a b => a.ops + b.ops
  | .rep a => a.ops + 1
  | .opt a => a.ops
theorem crN_len (xs ys : List Nat) : (crN xs ys).length = xs.length * ys.length := by
  unfold crN
  induction xs with
  | nil => simp
  | cons x xs ih =>
    rw [List.flatMap_cons, List.length_append, ih, List.length_map, List.length_cons, Nat.succ_mul]
    omega
theorem mc_at_len : ∀ (t : Tr) (s : Nat), (mcT t s).at_.length = t.ats
  | .at _ _, _ => rfl
  | .rep a, s => mc_at_len a s
  | .opt a, s => mc_at_len a s
  | .either a b, s => by
    show (_ ++ _ : List _).length = _
    rw [List.length_append, mc_at_len a, mc_at_len b]
    rfl
  | .join a b, s => by
    show (_ ++ _ : List _).length = _
    rw [List.length_append, mc_at_len a, mc_at_len b]
    rfl
theorem mc_fl_len : ∀ (t : Tr) (s : Nat), (mcT t s).fi.length ≤ t.ats ∧ (mcT t s).la.length ≤ t.ats
  | .at _ _, _ => ⟨Nat.le_refl _, Nat.le_refl _⟩
  | .rep a, s => mc_fl_len a s
  | .opt a, s => mc_fl_len a s
  | .either a b, s => by
    have h1 := mc_fl_len a s
    have h2 := mc_fl_len b (s + (mcT a s).at_.length)
    refine ⟨?_, ?_⟩
    · show (_ ++ _ : List _).length ≤ a.ats + b.ats
      rw [List.length_append]
      omega
    · show (_ ++ _ : List _).length ≤ a.ats + b.ats
      rw [List.length_append]
      omega
  | .join a b, s => by
    have h1 := mc_fl_len a s
    have h2 := mc_fl_len b (s + (mcT a s).at_.length)
    refine ⟨?_, ?_⟩
    · show (ite _ _ _ : List Nat).length ≤ a.ats + b.ats
      split
      · rw [List.length_append]; omega
      · omega
    · show (ite _ _ _ : List Nat).length ≤ a.ats + b.ats
      split
      · rw [List.length_append]; omega
      · omega
theorem mul_le {a b c : Nat} (h1 : a ≤ c) (h2 : b ≤ c) : a * b ≤ c * c := Nat.mul_le_mul h1 h2
theorem mc_pr_len : ∀ (t : Tr) (s n : Nat), t.ats ≤ n → (mcT t s).pr.length ≤ t.ops * (n * n)
  | .at _ _, _, _, _ => Nat.zero_le _
  | .opt a, s, n, h => mc_pr_len a s n h
  | .rep a, s, n, h => by
    have h1 := mc_pr_len a s n h
    have h2 := mc_fl_len a s
    have h0 : a.ats ≤ n := h
    show (_ ++ _ : List _).length ≤ (a.ops + 1) * (n * n)
    rw [List.length_append, crN_len, Nat.succ_mul]
    have := mul_le (Nat.le_trans h2.2 h0) (Nat.le_trans h2.1 h0)
    omega
  | .either a b, s, n, h => by
    have h0 : a.ats + b.ats ≤ n := h
    have h1 := mc_pr_len a s n (by omega)
    have h2 := mc_pr_len b (s + (mcT a s).at_.length) n (by omega)
    show (_ ++ _ : List _).length ≤ (a.ops + b.ops) * (n * n)
    rw [List.length_append, Nat.add_mul]
    omega
  | .join a b, s, n, h => by
    have h0 : a.ats + b.ats ≤ n := h
    have h1 := mc_pr_len a s n (by omega)
    have h2 := mc_pr_len b (s + (mcT a s).at_.length) n (by omega)
    have h3 := mc_fl_len a s
    have h4 := mc_fl_len b (s + (mcT a s).at_.length)
    show (_ ++ _ ++ _ : List _).length ≤ (a.ops + b.ops + 1) * (n * n)
    rw [List.length_append, List.length_append, crN_len, Nat.succ_mul, Nat.add_mul]
    have := mul_le (c := n) (Nat.le_trans h3.2 (by omega)) (Nat.le_trans h4.1 (by omega))
    omega
/-- all atoms hold few names -/
def Tr.few : Tr → Prop
  | .at _ ns => ns.length ≤ 1000
  | .join a b => a.few ∧ b.few
  | .either a b => a.few ∧ b.few
  | .rep a => a.few
  | .opt a => a.few
theorem fits_of {t : Tr} {n : Nat} (h : t.ats ≤ n) (hn : n ≤ 300) (hp : t.ops * (n * n) ≤ 90000) (s : Nat) : Fits (mcT t s) :=
  ⟨by rw [mc_at_len]; omega, by have := (mc_fl_len t s).1; omega, by have := (mc_fl_len t s).2; omega, Nat.le_trans (mc_pr_len t s n h) hp⟩
theorem sm_of : ∀ {t : Tr} {n : Nat}, t.few → t.ats ≤ n → n ≤ 300 → t.ops * (n * n) ≤ 90000 → t.sm
  | .at _ _, _, f, _, _, _ => f
  | .opt a, n, f, h, hn, hp => ⟨sm_of (t := a) f h hn hp, fits_of h hn hp⟩
  | .rep a, n, f, h, hn, hp => ⟨sm_of (t := a) f h hn (Nat.le_trans (Nat.mul_le_mul_right _ (Nat.le_succ _)) hp), fits_of h hn hp⟩
  | .either a b, n, f, h, hn, hp => by
    have h0 : a.ats + b.ats ≤ n := h
    have hp0 : (a.ops + b.ops) * (n * n) ≤ 90000 := hp
    exact ⟨sm_of f.1 (by omega) hn (Nat.le_trans (Nat.mul_le_mul_right _ (by omega)) hp0), sm_of f.2 (by omega) hn (Nat.le_trans (Nat.mul_le_mul_right _ (by omega)) hp0), fits_of h hn hp⟩
  | .join a b, n, f, h, hn, hp => by
    have h0 : a.ats + b.ats ≤ n := h
    have hp0 : (a.ops + b.ops + 1) * (n * n) ≤ 90000 := hp
    exact ⟨sm_of f.1 (by omega) hn (Nat.le_trans (Nat.mul_le_mul_right _ (by omega)) hp0), sm_of f.2 (by omega) hn (Nat.le_trans (Nat.mul_le_mul_right _ (by omega)) hp0), fits_of h hn hp⟩
section
variable {K : PySem.W.Frag} {ro : Ro} {ka k1 k2 : Cells} {te tf : TE}
/-- list + list, both frozen -/
theorem ev_catL {ds es : List D} (h : EvD K te ro ka (.val (.lst ds)) k1) (h2 : EvD K tf ro k1 (.val (.lst es)) k2) (hz : ds.length + es.length ≤ 100000) : EvD K (tOp (rAddU K) te tf) ro ka (.val (.lst (ds ++ es))) k2 := (evn_op h h2 (rvn_cat (b1 := false) (b2 := false) .vl .vl hz)).lst
theorem En.freeze_t {B F0 : Hp} {ta : List (V × W)} {sg : L2.St} {H : Hp} {a : Addr} {ds : List (List Key × D)} (e : En K B F0 ro (ka ++ [(a, .dit ds)]) ta sg H) : En K B F0 ro ka ((.ref a, .val (.dit ds)) :: ta) sg H := by
  obtain ⟨F, g, e⟩ := e
  obtain ⟨fa, ba, xs, ha, rl⟩ := e.ce (a, .dit ds) (by simp)
  have gg : Gr B F (upd F a (.dT xs)) := ⟨Sub.new fa, fun b h1 h2 => by
    have ne : b ≠ a := fun q => h2 (q ▸ ba)
    rw [upd_ne ne]
    exact h1⟩
  have nd2 := e.nd
  rw [List.map_append, List.nodup_append] at nd2
  refine ⟨upd F a (.dT xs), g.trans gg, ⟨fun b u h => ?_, fun b u h => ?_, e.fr, nd2.1, fun q hq => ?_, e.ln, fun i w h => ?_, fun q hq => ?_⟩⟩
  · by_cases hb : b = a
    · subst hb; rw [upd_same] at h; cases h; rfl
    · rw [upd_ne hb] at h; exact e.nz b u h
  · by_cases hb : b = a
    · subst hb; rw [upd_same] at h; cases h; exact .inl ha
    · rw [upd_ne hb] at h; exact e.fz b u h
  · obtain ⟨h1, h2, h3⟩ := e.ce q (List.mem_append_left _ hq)
    have nq : q.1 ≠ a := fun z => nd2.2.2 q.1 (List.mem_map.mpr ⟨q, hq, rfl⟩) a (by simp) z
    exact ⟨by rw [upd_ne nq]; exact h1, h2, ndok_gr e.nz gg h3⟩
  · obtain ⟨v, h1, h2⟩ := e.sl i w h
    exact ⟨v, h1, wok_gr e.nz gg h2⟩
  · rcases List.mem_cons.mp hq with rfl | hq
    · exact ⟨a, xs, rfl, .inl upd_same, RpT.mono gg.sub.exz e.nz _ _ rl⟩
    · exact wok_gr e.nz gg (e.tm q hq)
theorem EvN.dit {ds : List (List Key × D)} (h : EvN K te ro ka (.dit ds) k1) : EvD K te ro ka (.val (.dit ds)) k1 := fun B F0 ta sg H Q e q => h B F0 ta sg H Q e fun a H1 e1 => q _ _ e1.freeze_t
end
section
variable {K : PySem.W.Frag} {ro : Ro} {ka k1 k2 : Cells} {te tf : TE} {y : W}
theorem rpl_nms {F : Hp} : ∀ {ns : List Nat} {vs : List V}, RpL K F (nmD ns) vs → vs = ns.map fun n : Nat => V.int (n : Int)
  | [], _, h => h
  | n :: ns, _, ⟨x, ys, e, h1, h2⟩ => by
    cases h1
    rw [e, rpl_nms (ns := ns) h2]
    rfl
theorem inV_nms (n : Nat) : ∀ ns : List Nat, inV (.int (n : Int)) (ns.map fun n : Nat => V.int (n : Int)) = decide (n ∈ ns)
  | [] => rfl
  | m :: ns => by
    show (((m : Int) == (n : Int)) || inV (.int (n : Int)) (ns.map fun n : Nat => V.int (n : Int))) = _
    rw [inV_nms n ns, Bool.eq_iff_iff, Bool.or_eq_true, decide_eq_true_eq, decide_eq_true_eq, List.mem_cons, beq_iff_eq]
    exact ⟨fun h => h.elim (fun q => .inl (Int.ofNat_inj.mp q).symm) .inr, fun h => h.elim (fun q => .inl (Int.ofNat_inj.mpr q.symm)) .inr⟩
theorem flat_nms : ∀ ns : List Nat, (ns.map fun n : Nat => V.int (n : Int)).all flatV = true
  | [] => rfl
  | n :: ns => by
    rw [List.map_cons, List.all_cons, flat_nms ns]
    rfl
theorem rv_inN {neg tt b : Bool} {n : Nat} {ns : List Nat} (l : Lk ka y tt (nmD ns) b) : RvD K (rIn K neg) ka (.val (.int (n : Int))) y (.val (.bl (if neg then !decide (n ∈ ns) else decide (n ∈ ns)))) := fun B F0 ro ta sg H u v Q e h1 h2 q => by
  obtain ⟨F, g, ef⟩ := id e
  have hu := e.tm_int h1
  subst hu
  obtain ⟨a, xs, rfl, s1, r1⟩ := l.get ef (ef.tm _ h2)
  have ex := rpl_nms r1
  subst ex
  refine ⟨a, _, rfl, s1.sq, rfl, flat_nms ns, ?_⟩
  rw [inV_nms]
  exact q _ _ (e.push_imm fun _ => rfl)
/-- number in numbers -/
theorem ev_inN {tt b : Bool} {n : Nat} {ns : List Nat} (h : EvD K te ro ka (.val (.int (n : Int))) k1) (h2 : EvD K tf ro k1 y k2) (l : Lk k2 y tt (nmD ns) b) : EvD K (tOp (rInU K) te tf) ro ka (.val (.bl (decide (n ∈ ns)))) k2 := ev_op h h2 (rvd_r (rv_inN (neg := false) l))
theorem ev_niN {tt b : Bool} {n : Nat} {ns : List Nat} (h : EvD K te ro ka (.val (.int (n : Int))) k1) (h2 : EvD K tf ro k1 y k2) (l : Lk k2 y tt (nmD ns) b) : EvD K (tOp (rNiU K) te tf) ro ka (.val (.bl (!decide (n ∈ ns)))) k2 := ev_op h h2 (rvd_r (rv_inN (neg := true) l))
/-- two truth values alike -/
theorem ev_eqB {i j : Bool} (h : EvD K te ro ka (.val (.bl i)) k1) (h2 : EvD K tf ro k1 (.val (.bl j)) k2) : EvD K (tOp (rEqP K false) te tf) ro ka (.val (.bl (i == j))) k2 := (ev_eq h h2 .v .v rfl rfl).to (by cases i <;> cases j <;> rfl)
end
/-! a pair among the keys -/
theorem prK_inj {p q : Nat × Nat} (h : prK p = prK q) : p = q := by
  obtain ⟨a, b⟩ := p
  obtain ⟨c, d⟩ := q
  unfold prK at h
  injection h with h1 h2
  injection h2 with h2 _
  injection h1 with h1
  injection h2 with h2
  rw [show a = c from Int.ofNat_inj.mp h1, show b = d from Int.ofNat_inj.mp h2]
theorem put_has {κ α : Type} [DecidableEq κ] (k k' : κ) (v : α) (xs : List (κ × α)) : (getT (putT xs k v) k').isSome = ((getT xs k').isSome || decide (k = k')) := by
  have has : ∀ ys : List (κ × α), (getT ys k').isSome = ys.any fun p => decide (p.1 = k') := fun ys => by
    unfold getT
    rw [Option.isSome_map]
    induction ys with
    | nil => rfl
    | cons y ys ih =>
      rw [List.find?_cons, List.any_cons]
      cases decide (y.1 = k') with
      | true => rfl
      | false => rw [Bool.false_or]; exact ih
  rw [has, has]
  unfold putT
  split
  · rename_i h
    have same : ∀ ys : List (κ × α), (ys.map (newAt k v)).any (fun p => decide (p.1 = k')) = ys.any fun p => decide (p.1 = k') := fun ys => by
      induction ys with
      | nil => rfl
      | cons y ys ih =>
        rw [List.map_cons, List.any_cons, List.any_cons, ih]
        congr 1
        unfold newAt
        split <;> rfl
    rw [same]
    by_cases e : k = k'
    · subst e
      have h' : (xs.any fun p => decide (p.1 = k)) = true := h
      rw [h']
      rfl
    · rw [decide_eq_false e, Bool.or_false]
  · rw [List.any_append]
    simp
theorem prs_in (ps : List (Nat × Nat)) (p : Nat × Nat) : (getT (prsD ps) (prK p)).isSome = decide (p ∈ ps) := by
  have key : ∀ (ps : List (Nat × Nat)) (acc : List (List Key × D)), (getT (ps.foldl (fun acc p => putT acc (prK p) (D.bl true)) acc) (prK p)).isSome = ((getT acc (prK p)).isSome || decide (p ∈ ps)) := by
    intro ps
    induction ps with
    | nil => intro acc; simp
    | cons q ps ih =>
      intro acc
      rw [List.foldl_cons, ih, put_has, Bool.or_assoc]
      congr 1
      rw [Bool.eq_iff_iff, Bool.or_eq_true, decide_eq_true_eq, decide_eq_true_eq, decide_eq_true_eq, List.mem_cons]
      exact ⟨fun h => h.elim (fun z => .inl (prK_inj z).symm) .inr, fun h => h.elim (fun z => .inl (by rw [z])) .inr⟩
  have := key ps []
  rw [show (getT ([] : List (List Key × D)) (prK p)).isSome = false from rfl, Bool.false_or] at this
  exact this
theorem EvI.ws {K : PySem.W.Frag} {wi : TI} {ro : Ro} {ka k1 : Cells} {ws ws' : List W} {C : Cells → Prop} (h : EvI K wi ro ka ws C k1) (e : ws = ws') : EvI K wi ro ka ws' C k1 := e ▸ h
/-! names, parts -/
/-- the names of a pattern, as they stand in it -/
def Tr.nms : Tr → List Str
  | .at _ ns => ns
  | .join a b => a.nms ++ b.nms
  | .either a b => a.nms ++ b.nms
  | .rep a => a.nms
  | .opt a => a.nms
end DL

/-! FC: where the words of a pattern end (own work). -/
namespace DL
open PySem L2 PySem.W
/-- the lanes from s to k -/
def slc (ws : List Str) (s k : Nat) : List Str := (ws.drop s).take (k - s)
theorem slc_self (ws : List Str) (s : Nat) : slc ws s s = [] := by
  unfold slc
  rw [Nat.sub_self]
  rfl
theorem slc_len {ws : List Str} {s k : Nat} (h1 : s ≤ k) (h2 : k ≤ ws.length) : (slc ws s k).length = k - s := by
  unfold slc
  rw [List.length_take, List.length_drop]
  omega
theorem slc_cat {ws : List Str} {s m k : Nat} (h1 : s ≤ m) (h2 : m ≤ k) : slc ws s m ++ slc ws m k = slc ws s k := by
  unfold slc
  have e : k - s = (m - s) + (k - m) := by omega
  rw [e, List.take_add, List.drop_drop]
  congr 3
  omega
theorem slc_split {ws u v : List Str} {s k : Nat} (h1 : s ≤ k) (h2 : k ≤ ws.length) (e : slc ws s k = u ++ v) : s + u.length ≤ k ∧ u = slc ws s (s + u.length) ∧ v = slc ws (s + u.length) k := by
  have hl := slc_len h1 h2
  rw [e, List.length_append] at hl
  have hm : s + u.length ≤ k := by omega
  have c := slc_cat (ws := ws) (s := s) (m := s + u.length) (k := k) (Nat.le_add_right _ _) hm
  rw [e] at c
  have l1 := slc_len (ws := ws) (Nat.le_add_right s u.length) (Nat.le_trans hm h2)
  have l2 : (slc ws s (s + u.length)).length = u.length := by omega
  exact ⟨hm, (List.append_inj_left c l2).symm, (List.append_inj_right c l2).symm⟩
theorem slc_one {ws : List Str} {s : Nat} {x : Str} (h : ws[s]? = some x) : slc ws s (s + 1) = [x] := by
  unfold slc
  obtain ⟨lt, rfl⟩ := List.getElem?_eq_some_iff.mp h
  rw [List.drop_eq_getElem_cons lt, Nat.add_sub_cancel_left]
  rfl
/-- a word of t lies between s and k -/
def EndsB (t : Tr) (ws : List Str) (s k : Nat) : Prop := s ≤ k ∧ k ≤ ws.length ∧ Lg t (slc ws s k)
theorem ends_at {kd : Bool} {ns ws : List Str} {s k : Nat} : EndsB (.at kd ns) ws s k ↔ ∃ x, ws[s]? = some x ∧ atB (kd, ns) x = true ∧ k = s + 1 := by
  constructor
  · rintro ⟨h1, h2, x, e, hx⟩
    have hl := slc_len h1 h2
    rw [e] at hl
    have hk : k = s + 1 := by
      have : 1 = k - s := hl
      omega
    subst hk
    obtain ⟨y, hy⟩ : ∃ y, ws[s]? = some y := ⟨_, List.getElem?_eq_getElem (by omega)⟩
    rw [slc_one hy] at e
    cases e
    exact ⟨x, hy, hx, rfl⟩
  · rintro ⟨x, hx, hb, rfl⟩
    exact ⟨Nat.le_succ _, (List.getElem?_eq_some_iff.mp hx).1, x, slc_one hx, hb⟩
theorem ends_either {a b : Tr} {ws : List Str} {s k : Nat} : EndsB (.either a b) ws s k ↔ EndsB a ws s k ∨ EndsB b ws s k :=
  ⟨fun ⟨h1, h2, h⟩ => h.elim (fun z => .inl ⟨h1, h2, z⟩) fun z => .inr ⟨h1, h2, z⟩, fun h => h.elim (fun ⟨h1, h2, z⟩ => ⟨h1, h2, .inl z⟩) fun ⟨h1, h2, z⟩ => ⟨h1, h2, .inr z⟩⟩
theorem ends_opt {a : Tr} {ws : List Str} {s k : Nat} (hs : s ≤ ws.length) : EndsB (.opt a) ws s k ↔ k = s ∨ EndsB a ws s k := by
  constructor
  · rintro ⟨h1, h2, h | h⟩
    · have hl := slc_len h1 h2
      rw [h] at hl
      have : 0 = k - s := hl
      exact .inl (by omega)
    · exact .inr ⟨h1, h2, h⟩
  · rintro (rfl | ⟨h1, h2, h⟩)
    · exact ⟨Nat.le_refl _, hs, .inl (slc_self _ _)⟩
    · exact ⟨h1, h2, .inr h⟩
theorem ends_join {a b : Tr} {ws : List Str} {s k : Nat} : EndsB (.join a b) ws s k ↔ ∃ m, EndsB a ws s m ∧ EndsB b ws m k := by
  constructor
  · rintro ⟨h1, h2, u, v, e, hu, hv⟩
    obtain ⟨hm, e1, e2⟩ := slc_split h1 h2 e
    exact ⟨s + u.length, ⟨Nat.le_add_right _ _, by omega, e1 ▸ hu⟩, hm, h2, e2 ▸ hv⟩
  · rintro ⟨m, ⟨h1, h2, ha⟩, h3, h4, hb⟩
    exact ⟨Nat.le_trans h1 h3, h4, _, _, (slc_cat h1 h3).symm, ha, hb⟩
/-- steps one behind another -/
inductive Stp (R : Nat → Nat → Prop) (s : Nat) : Nat → Prop where
  | nil : Stp R s s
  | snoc {m k : Nat} (h : Stp R s m) (hr : R m k) : Stp R s k
theorem ends_rep {a : Tr} {ws : List Str} {s k : Nat} (hs : s ≤ ws.length) : EndsB (.rep a) ws s k ↔ Stp (EndsB a ws) s k := by
  constructor
  · rintro ⟨h1, h2, h⟩
    have key : ∀ u : List Str, Str_ (Lg a) u → ∀ k, s ≤ k → k ≤ ws.length → slc ws s k = u → Stp (EndsB a ws) s k := fun u hu => by
      induction hu with
      | nil =>
        intro k h1 h2 e
        have hl := slc_len h1 h2
        rw [e] at hl
        have : 0 = k - s := hl
        have ek : k = s := by omega
        rw [ek]
        exact .nil
      | @snoc u z hu hz ih =>
        intro k h1 h2 e
        obtain ⟨hm, e1, e2⟩ := slc_split h1 h2 e
        exact .snoc (ih _ (Nat.le_add_right _ _) (by omega) e1.symm) ⟨hm, h2, e2 ▸ hz⟩
    exact key _ h k h1 h2 rfl
  · intro h
    induction h with
    | nil => exact ⟨Nat.le_refl _, hs, by rw [slc_self]; exact .nil⟩
    | @snoc m k h hr ih =>
      obtain ⟨h1, h2, hu⟩ := ih
      obtain ⟨h3, h4, hz⟩ := hr
      refine ⟨Nat.le_trans h1 h3, h4, ?_⟩
      rw [← slc_cat h1 h3]
      exact .snoc hu hz
/-- the whole of it -/
theorem ends_all {t : Tr} {ws : List Str} : EndsB t ws 0 ws.length ↔ Lg t ws := by
  unfold EndsB slc
  rw [List.drop_zero, Nat.sub_zero, List.take_length]
  exact ⟨fun h => h.2.2, fun h => ⟨Nat.zero_le _, Nat.le_refl _, h⟩⟩
end DL

/-! FD: {x: True for x in xs}, xs a list of tuples: the library's DictComp_goesN with the hand layer's state as what holds at each turn (own work). -/
namespace DL
open PySem L2 PySem.W PyProof.Rows
section
variable {X : Cx}
/-- a tuple of numbers and texts put as a key -/
theorem put_tup {pins : List (Addr × Obj)} {sg : L2.St} {H : Hp} {s : Shared} {E : Value → Shared → Prop} {A : Around} {D b : Addr} {old : List (List Key × V)} {k : List Key} {v : V} {r : Value} {Q : Unit → Shared → Prop} (room : A.units < cLine) (I : L2.Inv X pins sg H s)
    (hD : H D = some (.dT old)) (hb : H b = some (.tup (k.map kV))) (few : old.length < sizeLine) (rv : RelV v r) (q : ∀ h' t, L2.Inv X pins sg (upd H D (.dT (putK old k v))) { s with heap := h', toks := t } → Heap.SameBut D s.heap h' → Q () { s with heap := h', toks := t }) :
    wpAny (model X.prog X.w) A (dictSet D (.ref b) r) Q E s := by
  obtain ⟨_, sys, xs, rel, now⟩ := dt_of I.hok hD
  have size : (putK old k v).length ≤ sizeLine := Nat.le_trans (length_putK old k v) few
  refine wpAny_dictSet_heap (knd := tupleKind (mixKind X.prog X.w)) room (key_of I.hok hb) now (fun h' then_ same => q h' _ ?_ same) (hsz := (Paired.length rel).symm ▸ Nat.le_of_lt few)
  obtain ⟨o, es, ep, ho, p1, p2, p3, _, p4⟩ := then_
  have still : ∀ {c : Addr} {ys : List V}, H c = some (.tup ys) → (upd H D (.dT (putK old k v))) c = some (.tup ys) := fun {c ys} e => (upd_ne fun z => by rw [z, hD] at e; cases e).trans e
  exact d_write I (hD ▸ trivial) same ⟨o, ho⟩ ⟨size, sys, _, (rel.put k hb rv).keeps fun c ys e => still e, o, es, ep, ho, p1, p2, p3, p4⟩
/-- the keys put one behind another, each with v -/
def rowsT (v : V) (ks : List (List Key)) : List (List Key × V) := ks.foldl (fun d k => putK d k v) []
theorem rowsT_len {v : V} (ks : List (List Key)) : (rowsT v ks).length ≤ ks.length := by
  have all : ∀ (l : List (List Key)) (d : List (List Key × V)), (l.foldl (fun d k => putK d k v) d).length ≤ d.length + l.length := by
    intro l
    induction l with
    | nil => exact fun d => Nat.le_refl _
    | cons k l ih =>
      intro d
      have := ih (putK d k v)
      have := length_putK d k v
      simp only [List.foldl_cons, List.length_cons] at *
      omega
  simpa [rowsT] using all ks []
theorem rowsT_take {v : V} {ks : List (List Key)} {i : Nat} {k : List Key} (h : ks[i]? = some k) : rowsT v (ks.take (i + 1)) = putK (rowsT v (ks.take i)) k v := by
  rw [List.take_add_one, h]
  exact List.foldl_append ..
/-- {x: v for x in te}, te a list of the tuples at bs, which we know as ks -/
def tKeysT (K : PySem.W.Frag) (v : V) (te : TE) : TE := fun σ H Q => te σ H fun x H1 => ∃ (l : Addr) (bs : List Addr) (ks : List (List Key)), x = .ref l ∧ SqL K H1 l (bs.map V.ref) ∧ ks.length = bs.length ∧ (∀ (i : Nat) (b : Addr) (k : List Key), bs[i]? = some b → ks[i]? = some k → H1 b = some (.tup (k.map kV))) ∧
  bs.length < sizeLine ∧ ∀ D, H1 D = none → Q (.ref D) (upd H1 D (.dT (rowsT v ks)))
theorem vals_refs {bs : List Addr} {its : List Value} (h : Vals (bs.map V.ref) its) : its = bs.map Value.ref := by
  induction bs generalizing its with
  | nil => cases h; rfl
  | cons b bs ih =>
    cases h with
    | cons r rr =>
      cases r
      rw [ih rr]
      rfl
theorem pe_keysT {y : Str} {py pz spos : Pos} {vx iter : Expr} {scope : Scope} {te : TE} {v : V} {r : Value} (room : X.A.units < cLine) (calm : X.calm = true) (he : PE X iter te) (rv : RelV v r) (hv : ∀ (env : Env) (s : Shared) (Q : Value → Shared → Prop) (E : Value → Shared → Prop), Q r s → wpAny (model X.prog X.w) X.A (eval vx env) Q E s)
    (clo : closureFor scope X.env = pure []) (nm : (scope.names.all fun z => decide (z.2 = .local) && decide (scope.names.lookup z.1 = some .local)) = true) (lk : scope.names.lookup y = some .local) (fn : scope.kind = .function) (hd : (y == ("__debug__" : Str)) = false := by decide) (hs : ∀ x, foldedSetIterable iter X.env x = pure x := by intro _; rfl) :
    PE X (.DictComp (.Name y py) vx [⟨.Name y pz, iter, [], 0⟩] scope spos) (tKeysT X.K v te) where
  run pins s σ H Q I h := by
    have loc : ∀ C, (compEnvC scope [] C X.env).kindOf y = some .local := fun C => by
      show ((relabel scope X.env).names).lookup y = some .local
      exact lookup_relabel_local lk
    have kd : ∀ C, (compEnvC scope [] C X.env).scope.kind = .function := fun C => fn
    have each : ∀ z ∈ scope.names, z.2 = .local ∧ scope.names.lookup z.1 = some .local := fun z m => by simpa using List.all_eq_true.mp nm z m
    refine DictComp_goesN clo (fun z m => by rw [(each z m).1]; decide) fn (fun z m _ => (each z m).2) (thn (he.run pins s σ H _ I h) ?_) hs
    rintro u s1 ⟨x, H1, I1, rx, l, bs, ks, rfl, hq, hl, tups, few, q⟩
    cases rx
    obtain ⟨its, vals, lst, _⟩ := I1.list hq
    have ei := vals_refs vals
    have low : l < s1.heap.objs.size := lst.lt
    refine wpAny_pyIter_list lst.isList ?_
    have I2 : L2.Inv X pins σ H1 { s1 with heap := s1.heap.push { cls := .type "list_iterator", data := .fields #[.ref l, .int 0 0] } } := I1.kept (t' := s1.toks) fun b o e => Heap.get?_push_of_some _ e
    generalize hit : s1.heap.objs.size = it at low
    generalize hs2 : ({ s1 with heap := s1.heap.push { cls := .type "list_iterator", data := .fields #[.ref l, .int 0 0] } } : Shared) = s2 at I2
    have size2 : s2.heap.objs.size = it + 1 := by rw [← hs2, ← hit]; exact Heap.size_push ..
    have iter2 : s2.heap.IsListIter it l 0 := by rw [← hs2, ← hit]; exact ⟨_, Heap.get?_push_size _ rfl, rfl, rfl⟩
    have lst2 : s2.heap.IsList l its.toArray := by rw [← hs2]; exact lst.isList.at fun o e => Heap.get?_push_of_some _ e
    have nIt : H1 it = none := I1.hok.fresh (Nat.le_of_eq hit)
    refine ⟨it, [it, l], [it], its.toArray.size, _, _, rfl, (Goes.list (I.ok.hd calm) it l (Nat.ne_of_lt low) its.toArray).toN, ⟨iter2, lst2⟩, fun D C s3 beg atD => ?_⟩
    have nD : H1 D = none := I2.hok.fresh beg.newD
    have nC : H1 C = none := I2.hok.fresh beg.newC
    have itD : it ≠ D := fun z => absurd beg.newD (by rw [size2, ← z]; exact Nat.not_succ_le_self _)
    have itC : it ≠ C := fun z => absurd beg.newC (by rw [size2, ← z]; exact Nat.not_succ_le_self _)
    have lD : l ≠ D := fun z => absurd beg.newD (by rw [size2, ← z]; exact Nat.not_le.mpr (Nat.lt_succ_of_lt low))
    have lC : l ≠ C := fun z => absurd beg.newC (by rw [size2, ← z]; exact Nat.not_le.mpr (Nat.lt_succ_of_lt low))
    let HD : Nat → Hp := fun i => upd H1 D (.dT (rowsT v (ks.take i)))
    have fIt : ∀ i, FpOk X pins (HD i) it := fun i => I1.fpOk (Nat.le_of_eq hit) ((upd_ne itD).trans nIt)
    have fC : ∀ i, FpOk X pins (HD i) C := fun i => I2.fpOk beg.newC ((upd_ne (Ne.symm beg.ne)).trans nC)
    have turned : ∀ {i : Nat} {b : Addr} {s' : Shared} {h' : Heap} {t : Nat}, L2.Inv X pins σ (HD i) s' → FpOk X pins (HD i) b → (∀ c o, c ≠ b → s'.heap.get? c = some o → h'.get? c = some o) → L2.Inv X pins σ (HD i) { s' with heap := h', toks := t } := fun J f k =>
      J.turned k f.1 f.2.1 f.2.2.2.1 f.2.2.2.2.1 f.2.2.2.2.2
    have sys : (D == sysModules) = false := beq_eq_false_iff_ne.mpr fun z => absurd (Nat.lt_of_lt_of_le I2.big beg.newD) (by rw [z]; exact Nat.lt_irrefl _)
    have begin_ : L2.Inv X pins σ (HD 0) s3 := by
      obtain ⟨h3, t3, e3⟩ := beg.only
      have := beg.old
      rw [e3] at this atD ⊢
      exact I2.laid this beg.newD ⟨Nat.zero_le _, sys, [], .nil, _, #[], 0, atD, ⟨rfl, rfl, rfl⟩, rfl, rfl, List.nodup_nil⟩
    refine ⟨fun i s' => (∃ m, s'.heap.Ns C m) ∧ L2.Inv X pins σ (HD i) s', ⟨⟨_, beg.names⟩, begin_⟩, fun i s' h' tk g keep _ => ?_, fun i w s0 s' hi _ _ at_ st g => ?_, fun s' g => ?_⟩
    · obtain ⟨⟨m, ns⟩, J⟩ := g
      exact ⟨⟨m, ns.at fun o e => keep C o (by simpa using itC.symm) e⟩, turned J (fIt i) fun c o ne e => keep c o (by simpa using ne) e⟩
    · obtain ⟨⟨m, ns⟩, J⟩ := g
      have lt : i < bs.length := by rw [ei] at hi; simpa using hi
      obtain ⟨b, hb⟩ : ∃ b, bs[i]? = some b := ⟨_, List.getElem?_eq_getElem lt⟩
      obtain ⟨k, hk⟩ : ∃ k, ks[i]? = some k := ⟨_, List.getElem?_eq_getElem (hl ▸ lt)⟩
      obtain rfl : w = .ref b := by
        have z : its.toArray[i]? = some w := at_
        rw [List.getElem?_toArray, ei, List.getElem?_map, hb] at z
        exact (Option.some.inj z).symm
      refine wpAny_assign_Name (wpAny_storeName_local (m := m) (loc C) ns (fun h4 ns4 same4 => wpAny_tests_nil ?_) (by rw [kd]; rfl))
      rw [if_pos rfl]
      refine wpAny_Name (wpAny_loadName_local (kd C) (loc C) ns4 (if_pos rfl) (hv _ _ _ _ ?_)) hd
      have J4 : L2.Inv X pins σ (HD i) { s' with heap := h4, toks := s'.toks + 1 } := turned J (fC i) fun c o ne e => (same4.2 c ne).trans e
      have st4 : h4.IsListIter it l (i + 1) ∧ h4.IsList l its.toArray := ⟨st.1.at fun o e => (same4.2 it itC).trans e, st.2.at fun o e => (same4.2 l lC).trans e⟩
      have tup := tups i b k hb hk
      have bD : b ≠ D := fun z => by rw [z, nD] at tup; cases tup
      refine put_tup room J4 (old := rowsT v (ks.take i)) upd_same ((upd_ne bD).trans tup) ?_ rv fun h5 t5 J5 same5 => ?_
      · exact Nat.lt_of_le_of_lt (Nat.le_trans (rowsT_len _) (by rw [List.length_take, hl]; exact Nat.min_le_right _ _)) few
      · rw [upd_upd, ← rowsT_take hk] at J5
        exact ⟨⟨⟨_, ns4.at fun o e => (same5.2 C (Ne.symm beg.ne)).trans e⟩, J5⟩, st4.1.at fun o e => (same5.2 it itD).trans e, st4.2.at fun o e => (same5.2 l lD).trans e⟩
    · obtain ⟨⟨m, ns⟩, J⟩ := g
      have all : HD its.toArray.size = upd H1 D (.dT (rowsT v ks)) := by
        show upd H1 D (.dT (rowsT v (ks.take _))) = _
        rw [List.take_of_length_le (by rw [hl, ei]; simp)]
      rw [all] at J
      exact ⟨m, ns, fun h' same => ⟨.ref D, _, turned (i := its.toArray.size) (b := C) (t := s'.toks) (all ▸ J) (fC _) (fun c o ne e => (same.2 c ne).trans e), rfl, all ▸ q D nD⟩⟩
end
end DL
namespace DL
open PySem L2 PySem.W
section
variable {K : PySem.W.Frag} {B F F0 : Hp} {ro : Ro} {ka k1 k2 : Cells} {ta : List (V × W)} {sg : L2.St} {H H' : Hp} {te : TE}
/-- pairs of numbers in a list: each stands as a tuple of its own -/
theorem prs_at (np : NoP K) (e : EnF K B F ro ka ta sg H) : ∀ (ps : List (Nat × Nat)) (xs : List V), RpL K F (ps.map prD) xs → ∃ bs : List Addr, xs = bs.map V.ref ∧ bs.length = ps.length ∧ ∀ (i : Nat) (b : Addr) (k : List Key), bs[i]? = some b → (ps.map prK)[i]? = some k → H b = some (.tup (k.map kV))
  | [], xs, h => ⟨[], h, rfl, fun i b k h => by simp at h⟩
  | p :: ps, xs, h => by
    obtain ⟨x, ys, rfl, hx, hy⟩ := h
    obtain ⟨b, rfl, hb⟩ := pr_at np e hx
    obtain ⟨bs, rfl, hl, at_⟩ := prs_at np e ps ys hy
    refine ⟨b :: bs, rfl, congrArg (· + 1) hl, fun i c k hc hk => ?_⟩
    cases i with
    | zero =>
      cases hc
      cases hk
      exact hb
    | succ i => exact at_ i c k hc hk
/-- the keys of a dict out of pairs, as data -/
def prsT (d : D) (ps : List (Nat × Nat)) : List (List Key × D) := ps.foldl (fun acc p => putT acc (prK p) d) []
theorem rows_rel {d : D} {v : V} (h : Rp K F d v) (ps : List (Nat × Nat)) : RpT K F (prsT d ps) (rowsT v (ps.map prK)) := by
  have all : ∀ (ps : List (Nat × Nat)) (a : List (List Key × D)) (b : List (List Key × V)), RpT K F a b → RpT K F (ps.foldl (fun acc p => putT acc (prK p) d) a) ((ps.map prK).foldl (fun acc k => putK acc k v) b) := by
    intro ps
    induction ps with
    | nil => exact fun _ _ z => z
    | cons p ps ih => exact fun a b z => ih _ _ (rpt_pt.mpr ((rpt_pt.mp z).put (prK p) h))
  exact all ps [] [] rfl
/-- {pair: True for pair in ..} -/
theorem evn_keysT {ps : List (Nat × Nat)} (np : NoP K) (h : EvD K te ro ka (.val (.lst (ps.map prD))) k1) (few : ps.length < 100000) : EvN K (tKeysT K (.bl true) te) ro ka (.dit (prsT (.bl true) ps)) k1 := fun B F0 ta sg H Q e q =>
  h B F0 ta sg H _ e fun u H1 ⟨F, g, ef⟩ => by
    obtain ⟨l, xs, rfl, sl, rl⟩ := Lk.vl.get ef (ef.tm _ List.mem_cons_self)
    obtain ⟨bs, rfl, hl, at_⟩ := prs_at np ef ps xs rl
    refine ⟨l, bs, ps.map prK, rfl, .inl (by simpa [SqB] using sl), by rw [List.length_map, hl], at_, hl ▸ Nat.lt_of_lt_of_le few (by decide), fun Dl hD => q Dl _ ⟨F, g, ?_⟩⟩
    exact (ef.held (ta' := ta) fun p hp => List.mem_cons_of_mem _ hp).cell (o := .dT _) hD (n := .dit (prsT (.bl true) ps)) ⟨_, upd_same, rows_rel (show Rp K F (.bl true) (.bl true) from rfl) ps⟩
end
end DL

/-! FE: the ends of a pattern's words, as the law counts them (own work). -/
namespace DL
open PySem L2 PySem.W
/-- the numbers, each once -/
def dedN (xs : List Nat) : List Nat := ((List.range xs.length).filter fun i => !decide (xs.getD i 0 ∈ xs.take i)).map fun i => xs.getD i 0
theorem dedN_mem {xs : List Nat} {n : Nat} : n ∈ dedN xs ↔ n ∈ xs := by
  unfold dedN
  constructor
  · intro h
    obtain ⟨i, hi, rfl⟩ := List.mem_map.mp h
    have lt := List.mem_range.mp (List.mem_filter.mp hi).1
    rw [List.getD_eq_getElem?_getD, List.getElem?_eq_getElem lt]
    exact List.getElem_mem lt
  · intro h
    have key : ∀ k : Nat, ∀ i, i < k → xs[i]? = some n → n ∈ ((List.range xs.length).filter fun i => !decide (xs.getD i 0 ∈ xs.take i)).map fun i => xs.getD i 0 := by
      intro k
      induction k with
      | zero => intro i hi; exact absurd hi (Nat.not_lt_zero _)
      | succ k ih =>
        intro i hi hx
        have gi : xs.getD i 0 = n := by rw [List.getD_eq_getElem?_getD, hx]; rfl
        by_cases hb : n ∈ xs.take i
        · obtain ⟨j, hj⟩ := List.getElem?_of_mem hb
          have lj : j < i := by
            have := (List.getElem?_eq_some_iff.mp hj).1
            rw [List.length_take] at this
            omega
          rw [List.getElem?_take_of_lt lj] at hj
          exact ih j (by omega) hj
        · refine List.mem_map.mpr ⟨i, List.mem_filter.mpr ⟨List.mem_range.mpr (List.getElem?_eq_some_iff.mp hx).1, ?_⟩, gi⟩
          rw [gi, decide_eq_false hb]
          rfl
    obtain ⟨i, hi⟩ := List.getElem?_of_mem h
    exact key (i + 1) i (Nat.lt_succ_self _) hi
/-- the places not there yet, appended -/
def addN (acc : List Nat) (ps : List Nat) : List Nat := ps.foldl (fun acc p => if p ∈ acc then acc else acc ++ [p]) acc
theorem addN_cons (acc : List Nat) (p : Nat) (ps : List Nat) : addN acc (p :: ps) = addN (if p ∈ acc then acc else acc ++ [p]) ps := rfl
theorem addN_ext (ps : List Nat) : ∀ acc, ∃ r, addN acc ps = acc ++ r := by
  induction ps with
  | nil => exact fun acc => ⟨[], (List.append_nil _).symm⟩
  | cons p ps ih =>
    intro acc
    rw [addN_cons]
    split
    · exact ih acc
    · obtain ⟨r, e⟩ := ih (acc ++ [p])
      exact ⟨p :: r, by rw [e, List.append_assoc]; rfl⟩
theorem addN_mem {x : Nat} (ps : List Nat) : ∀ acc, x ∈ addN acc ps ↔ x ∈ acc ∨ x ∈ ps := by
  induction ps with
  | nil => exact fun acc => by simp [addN]
  | cons p ps ih =>
    intro acc
    rw [addN_cons, ih]
    split
    · rename_i h
      simp only [List.mem_cons]
      constructor
      · rintro (z | z)
        · exact .inl z
        · exact .inr (.inr z)
      · rintro (z | rfl | z)
        · exact .inl z
        · exact .inl h
        · exact .inr z
    · simp only [List.mem_append, List.mem_cons, List.not_mem_nil, or_false]
      rw [or_assoc]
theorem addN_nodup (ps : List Nat) : ∀ acc, acc.Nodup → (addN acc ps).Nodup := by
  induction ps with
  | nil => exact fun acc h => h
  | cons p ps ih =>
    intro acc h
    rw [addN_cons]
    split
    · exact ih acc h
    · rename_i hp
      refine ih _ (List.nodup_append.mpr ⟨h, by simp, fun a ha b hb => ?_⟩)
      rw [List.mem_singleton.mp hb]
      exact fun z => hp (z ▸ ha)
/-- the loop over what was found -/
def repGo (f : Nat → List Nat) : Nat → List Nat → Nat → List Nat
  | 0, found, _ => found
  | n + 1, found, i => match found[i]? with
    | none => found
    | some p => repGo f n (addN found (f p)) (i + 1)
structure RepI (f : Nat → List Nat) (L s n : Nat) (found : List Nat) (i : Nat) : Prop where
  nd : found.Nodup
  le : ∀ x ∈ found, x ≤ L
  st : s ∈ found
  sound : ∀ x ∈ found, Stp (fun m k => k ∈ f m) s x
  shut : ∀ j x, j < i → found[j]? = some x → ∀ k ∈ f x, k ∈ found
  at_ : i ≤ found.length
  fuel : L + 2 ≤ n + i
theorem nodup_le {l : List Nat} {L : Nat} (h : l.Nodup) (b : ∀ x ∈ l, x ≤ L) : l.length ≤ L + 1 := by
  have := nat_nodup_len l (List.range (L + 1)) h fun x hx => List.mem_range.mpr (Nat.lt_succ_of_le (b x hx))
  rwa [List.length_range] at this
theorem RepI.next {f : Nat → List Nat} {L s n : Nat} {found : List Nat} {i p : Nat} (bd : ∀ m ≤ L, ∀ k ∈ f m, k ≤ L) (h : RepI f L s (n + 1) found i) (hp : found[i]? = some p) : RepI f L s n (addN found (f p)) (i + 1) := by
  have mp := List.mem_of_getElem? hp
  obtain ⟨r, er⟩ := addN_ext (f p) found
  have lt := (List.getElem?_eq_some_iff.mp hp).1
  refine ⟨addN_nodup _ _ h.nd, fun x hx => ?_, (addN_mem _ _).mpr (.inl h.st), fun x hx => ?_, fun j x hj hx k hk => ?_, ?_, by have := h.fuel; omega⟩
  · rcases (addN_mem _ _).mp hx with z | z
    · exact h.le x z
    · exact bd p (h.le p mp) x z
  · rcases (addN_mem _ _).mp hx with z | z
    · exact h.sound x z
    · exact .snoc (h.sound p mp) z
  · by_cases e : j = i
    · subst e
      rw [er, List.getElem?_append_left lt, hp] at hx
      cases hx
      exact (addN_mem _ _).mpr (.inr hk)
    · have lj : j < i := by omega
      rw [er, List.getElem?_append_left (by omega)] at hx
      exact (addN_mem _ _).mpr (.inl (h.shut j x lj hx k hk))
  · rw [er, List.length_append]
    omega
theorem repGo_spec {f : Nat → List Nat} {L s : Nat} (bd : ∀ m ≤ L, ∀ k ∈ f m, k ≤ L) : ∀ n found i, RepI f L s n found i → ∀ k, k ∈ repGo f n found i ↔ Stp (fun m k => k ∈ f m) s k := by
  intro n
  induction n with
  | zero =>
    intro found i h
    have := nodup_le h.nd h.le
    have := h.at_
    have := h.fuel
    omega
  | succ n ih =>
    intro found i h k
    unfold repGo
    cases hp : found[i]? with
    | some p => exact ih _ _ (h.next bd hp) k
    | none =>
      have hl := List.getElem?_eq_none_iff.mp hp
      show k ∈ found ↔ _
      refine ⟨h.sound k, fun st => ?_⟩
      induction st with
      | nil => exact h.st
      | @snoc m k _ hr ihm =>
        obtain ⟨j, hj⟩ := List.getElem?_of_mem ihm
        exact h.shut j m (by have := (List.getElem?_eq_some_iff.mp hj).1; omega) hj k hr
theorem repGo_nodup {f : Nat → List Nat} {L s : Nat} (bd : ∀ m ≤ L, ∀ k ∈ f m, k ≤ L) : ∀ n found i, RepI f L s n found i → (repGo f n found i).Nodup ∧ ∀ x ∈ repGo f n found i, x ≤ L := by
  intro n
  induction n with
  | zero => exact fun found i h => ⟨h.nd, h.le⟩
  | succ n ih =>
    intro found i h
    unfold repGo
    cases hp : found[i]? with
    | some p => exact ih _ _ (h.next bd hp)
    | none => exact ⟨h.nd, h.le⟩
theorem RepI.begin {f : Nat → List Nat} {L s : Nat} (h : s ≤ L) : RepI f L s (L + 2) [s] 0 :=
  ⟨by simp, fun x hx => (List.mem_singleton.mp hx) ▸ h, List.mem_singleton.mpr rfl, fun x hx => (List.mem_singleton.mp hx) ▸ .nil, fun j x hj => absurd hj (Nat.not_lt_zero _), Nat.zero_le _, Nat.le_refl _⟩
/-- the ends, in the order in which the law finds them -/
def endsL (ws : List Str) : Tr → Nat → List Nat
  | .at k ns, s => match ws[s]? with
    | some x => if atB (k, ns) x = true then [s + 1] else []
    | none => []
  | .either a b, s => endsL ws a s ++ endsL ws b s
  | .opt a, s => s :: endsL ws a s
  | .join a b, s => (dedN (endsL ws a s)).flatMap (endsL ws b)
  | .rep a, s => repGo (endsL ws a) (ws.length + 2) [s] 0
theorem Stp.imp {R S : Nat → Nat → Prop} {s L : Nat} (hs : s ≤ L) (hR : ∀ m k, m ≤ L → R m k → S m k ∧ k ≤ L) {k : Nat} (h : Stp R s k) : Stp S s k ∧ k ≤ L := by
  induction h with
  | nil => exact ⟨.nil, hs⟩
  | snoc _ hr ih =>
    obtain ⟨h1, h2⟩ := hR _ _ ih.2 hr
    exact ⟨.snoc ih.1 h1, h2⟩
theorem endsL_iff (ws : List Str) : ∀ (t : Tr) (s k : Nat), s ≤ ws.length → (k ∈ endsL ws t s ↔ EndsB t ws s k)
  | .at kd ns, s, k, hs => by
    rw [ends_at]
    unfold endsL
    cases hx : ws[s]? with
    | none => simp
    | some x =>
      by_cases hb : atB (kd, ns) x = true
      · simp [hb]
      · simp [hb]
  | .either a b, s, k, hs => by
    rw [ends_either, ← endsL_iff ws a s k hs, ← endsL_iff ws b s k hs]
    exact List.mem_append
  | .opt a, s, k, hs => by
    rw [ends_opt hs, ← endsL_iff ws a s k hs]
    exact List.mem_cons
  | .join a b, s, k, hs => by
    rw [ends_join]
    unfold endsL
    rw [List.mem_flatMap]
    constructor
    · rintro ⟨m, hm, hk⟩
      have h1 := (endsL_iff ws a s m hs).mp (dedN_mem.mp hm)
      exact ⟨m, h1, (endsL_iff ws b m k h1.2.1).mp hk⟩
    · rintro ⟨m, h1, h2⟩
      exact ⟨m, dedN_mem.mpr ((endsL_iff ws a s m hs).mpr h1), (endsL_iff ws b m k h1.2.1).mpr h2⟩
  | .rep a, s, k, hs => by
    have ih := endsL_iff ws a
    have bd : ∀ m ≤ ws.length, ∀ k ∈ endsL ws a m, k ≤ ws.length := fun m hm k hk => ((ih m k hm).mp hk).2.1
    rw [ends_rep hs]
    unfold endsL
    rw [repGo_spec bd _ _ _ (RepI.begin hs)]
    exact ⟨fun h => (Stp.imp hs (fun m k hm hr => ⟨(ih m k hm).mp hr, bd m hm k hr⟩) h).1, fun h => (Stp.imp hs (fun m k hm hr => ⟨(ih m k hm).mpr hr, hr.2.1⟩) h).1⟩
theorem endsL_le {ws : List Str} {t : Tr} {s : Nat} (hs : s ≤ ws.length) : ∀ k ∈ endsL ws t s, k ≤ ws.length := fun k hk => ((endsL_iff ws t s k hs).mp hk).2.1
theorem flatMap_le {f : Nat → List Nat} {b : Nat} : ∀ l : List Nat, (∀ x ∈ l, (f x).length ≤ b) → (l.flatMap f).length ≤ l.length * b
  | [], _ => Nat.zero_le _
  | x :: l, h => by
    rw [List.flatMap_cons, List.length_append, List.length_cons, Nat.succ_mul]
    have := flatMap_le l fun y hy => h y (List.mem_cons_of_mem _ hy)
    have := h x List.mem_cons_self
    omega
end DL

/-! FF: defs with a star parameter, by contracts about the tuple (own work). -/
namespace DL
open PySem L2 PySem.W PyProof.Rows
/-- a contract about the tuple of all arguments, told by the arguments -/
def CtV (C : Ct) : Ct := fun ws ka out => ∃ ds : List D, ws = ds.map W.val ∧ ds.length ≤ 100000 ∧ C [.val (.tup ds)] ka out
/-- the def at f, which takes any number of arguments, keeps C of their tuple -/
def FnV (P : Program) (w : World) (K : PySem.W.Frag) (mg : Str → Option Value) (base : Heap) (k : Nat) (f : Addr) (C : Ct) : Prop := FnR P w K mg base (L2.CX P w) k f (spC K (CtV C))
section
variable {P : Program} {w : World} {K : PySem.W.Frag} {mg : Str → Option Value} {base : Heap} {f : Addr} {fd : FuncData} {x qual pv : Str} {params : Arguments} {body : List Stmt} {scope : Scope} {N : List Str} {k j : Nat} {C : Ct}
theorem FnV.up (F : FnV P w K mg base j f C) (h : j ≤ k) : FnV P w K mg base k f C := FnR.mono F h
/-- what a contract says of a body: its wish at the start of the frame -/
theorem sp_start {ps : List Str} {t : TS} {vs : List V} {H : Hp} {Q : VK} {E : XK} (hl : ∀ ws ka out, C ws ka out → ws.length = ps.length) (h : spC K C vs H Q E)
    (p : ∀ ws ka out B F0 Q, C ws ka out → RtOk K B F0 out Q → RxOk K B F0 out E → Gp K B F0 [] (t { nx := fun _ H' => Q .non H', rt := Q }) (ws.map some ++ List.replicate (N.length - ps.length) none) ka) : t { nx := fun _ H' => Q .non H', rt := Q } (L2.start N vs) H := by
  obtain ⟨B, F0, ws, ka, out, hC, l, ⟨F1, g1, en⟩, hR, hX⟩ := h
  have hw := hl _ _ _ hC
  refine p ws ka out B F0 Q hC hR hX _ H ⟨F1, g1, (en.frame ?_ fun i y e => ?_).held fun q hq => by cases hq⟩
  · simp [L2.start, l, hw]
  · unfold L2.start
    rcases Nat.lt_or_ge i ws.length with lt | ge
    · have lv : i < vs.length := l ▸ lt
      rw [List.getElem?_append_left (by rw [List.length_map]; exact lt), List.getElem?_map, List.getElem?_eq_getElem lt] at e
      obtain rfl : ws[i] = y := by simpa using e
      refine ⟨vs[i], by rw [List.getElem?_append_left (by rw [List.length_map]; exact lv), List.getElem?_map, List.getElem?_eq_getElem lv]; rfl, en.tm (vs[i], ws[i]) (List.mem_of_getElem? (i := i) ?_)⟩
      exact List.getElem?_zip_eq_some.mpr ⟨List.getElem?_eq_getElem lv, List.getElem?_eq_getElem lt⟩
    · rw [List.getElem?_append_right (by rw [List.length_map]; exact ge), List.getElem?_replicate] at e
      split at e <;> cases e
/-- the arguments gathered -/
theorem sp_gather {vs : List V} {H : Hp} {Q : VK} {E : XK} (h : spC K (CtV C) vs H Q E) : ∃ us rest, vs = us ++ rest ∧ us.length = ([] : List Str).length ∧ rest.length ≤ sizeLine ∧ ∀ p, H p = none → spC K C (us ++ [V.ref p]) (upd H p (.tup rest)) Q E := by
  obtain ⟨B, F0, _, ka, out, ⟨ds, rfl, few, hC⟩, l, ⟨F1, g1, en⟩, hR, hX⟩ := h
  rw [List.length_map] at l
  refine ⟨[], vs, rfl, rfl, l ▸ Nat.le_trans few (by decide), fun p hp => ?_⟩
  obtain ⟨e2, g2⟩ := en.lay (o := .tup vs) hp rfl
  refine ⟨B, F0, _, ka, out, hC, rfl, ⟨_, g1.trans g2, (e2.held (ta' := []) fun q hq => by cases hq).push ⟨p, vs, rfl, .inl (.inl upd_same), ?_⟩⟩, hR, hX⟩
  exact RpL.mono g2.sub.exz en.nz _ _ (rpl_of l fun z hz => en.tm z hz)
theorem fn_okV (F : FunD K x qual params body scope [] [] f fd) (S : FnScope N [pv] scope)
    (hb : ∀ (kV doc pm : Value) (an : Option Addr) (cdv ct : Value) (rest : List Value), bindArgs (PySem.W.fnOf x qual params body scope .none kV doc pm an cdv ct) ⟨rest, []⟩ = (newTuple rest >>= fun t => pure [(pv, t)]))
    (hl : ∀ ws ka out, C ws ka out → ws.length = 1)
    (h : ∀ (cdv : Value) (A : Around) (outer : List Env) (s : Shared) (H : Hp) (E : XK), Room k (A.deeper (PyProof.Rows.envOfC qual scope s.heap.objs.size f cdv)) →
      ∃ t, PSs (cxOf (L2.CX P w) P w K mg base N qual scope f cdv A outer s H E) body t ∧
        ∀ ws ka out B F0 Q, C ws ka out → RtOk K B F0 out Q → RxOk K B F0 out E → Gp K B F0 [] (t { nx := fun _ H' => Q .non H', rt := Q }) (ws.map some ++ List.replicate (N.length - [pv].length) none) ka) : FnV P w K mg base (k + 1) f C := by
  obtain ⟨oc, od, dV, kV, doc, pm, an, cdv, ct, osl, rfl, lk, hcd, dfl, _⟩ := F.ex
  obtain rfl : dV = .none := dfl.elim (fun z => z.2) fun z => absurd rfl z.1
  refine FnR.imp (StX.fn_star (ps := []) (pv := pv) (sp := spC K C) lk hcd S StX.cxUp (fun us rest hu => ?_) fun A outer s H vs Q E hr hs => ?_) fun vs H Q E z => sp_gather z
  · cases List.eq_nil_of_length_eq_zero hu
    exact hb kV doc pm an cdv ct rest
  · obtain ⟨t, d, p⟩ := h cdv A outer s H E hr
    exact ⟨t, d, sp_start (ps := [pv]) hl hs p⟩
end
section
variable {X : Cx} {k : Nat} {f : Addr} {C : Ct} {E : XK} {x : Str} {p pos : Pos} {e : Expr} {es : List Expr} {t : TA}
/-- f(e, ..), f a def with a star parameter -/
theorem pe_callS (F : FnV X.prog X.w X.K X.mg X.base k f C) (hr : Room k X.A) (hg : Gl X x) (hm : X.mg x = some (.ref f)) (kp : PySem.W.keepIn X.K (.ref f) = true) (hx : Passes (L2.CX X.prog X.w) X E) (ha : PA X (e :: es) t)
    (nd : (x == ("__debug__" : Str)) = false := by decide) (st : starEach (e :: es) X.env = (false, eval e X.env) :: starEach es X.env := by rfl) (pl : (backTo pos (starEach es X.env)).any (·.1) = false := by rfl) : PE X (.Call (.Name x p) (e :: es) [] pos) (tCall (spC X.K (CtV C)) [] E t) where
  run pins s σ H Q I h := wpAny_Call_Name_kw (ld_glob I hg hm (PySem.W.callWith_K (h₀ := X.base) I.ok.mod.kin kp (thn (ha.run pos pins s σ H _ I h) fun us s1 ⟨vs, H1, J, rv, q⟩ => ⟨J.kIn, wpAny_call (run_fnR F hr hx J rv (vs.append_nil ▸ q))⟩) st pl) nd)
/-- f() -/
theorem pe_callS0 (F : FnV X.prog X.w X.K X.mg X.base k f C) (hr : Room k X.A) (hg : Gl X x) (hm : X.mg x = some (.ref f)) (kp : PySem.W.keepIn X.K (.ref f) = true) (hx : Passes (L2.CX X.prog X.w) X E) (nd : (x == ("__debug__" : Str)) = false := by decide) :
    PE X (.Call (.Name x p) [] [] pos) (tCall (spC X.K (CtV C)) [] E tNil) where
  run pins s σ H Q I h := wpAny_Call_Name_kw (ld_glob I hg hm (PySem.W.callWith_K0 I.kIn kp (wpAny_call (run_fnR (us := []) F hr hx I .nil h))) nd)
end
/-- trees as the law draws them: at each end one to three names, or none behind "none" -/
def niceT : Tr → Prop
  | .at k ns => ns.length ≤ 3 ∧ (k = true → ns ≠ []) ∧ ∀ n ∈ ns, isNm n = true
  | .join a b => niceT a ∧ niceT b
  | .either a b => niceT a ∧ niceT b
  | .rep a => niceT a
  | .opt a => niceT a
/-- an operator of two own objects that comes back -/
theorem ev_opB {K : PySem.W.Frag} {ro : Ro} {ka k1 k2 : Cells} {te tf : TE} {x y : W} {C : Addr} {fs gs : List (Str × D)} {b b2 : Bool} {Cc : Ct} {E : XK} {d : D} (h1 : EvD K te ro ka x k1) (h2 : EvD K tf ro k1 y k2) (l1 : Io k2 x C fs b) (l2 : Io k2 y C gs b2) (hC : Cc [x, y] [] (Rt d [])) :
    EvD K (tOp (rOwnB C (spC K Cc) E) te tf) ro ka (.val d) k2 := fun B F0 ta sg H Q e q =>
  evr_opB (op := .Add) (k2 := []) k2 h1 h2 l1 l2 hC (fun o k z => ⟨d, z.1⟩) B F0 ta sg H Q e fun w k v H' ⟨d', k3, ⟨e1, e2⟩, e3, e4⟩ e' => by
    cases e1
    subst e2 e3 e4
    exact q v H' e'
/-- sizes of such trees -/
theorem nice_few : ∀ {t : Tr}, niceT t → t.few
  | .at _ _, h => Nat.le_trans h.1 (by decide)
  | .join _ _, h => ⟨nice_few h.1, nice_few h.2⟩
  | .either _ _, h => ⟨nice_few h.1, nice_few h.2⟩
  | .rep a, h => nice_few (t := a) h
  | .opt a, h => nice_few (t := a) h
theorem pow_max (a b : Nat) : 2 ^ a ≤ 2 ^ (max a b) ∧ 2 ^ b ≤ 2 ^ (max a b) := ⟨Nat.pow_le_pow_right (by decide) (Nat.le_max_left _ _), Nat.pow_le_pow_right (by decide) (Nat.le_max_right _ _)⟩
theorem ats_le : ∀ t : Tr, t.ats ≤ 2 ^ t.dep
  | .at _ _ => Nat.le_refl _
  | .join a b => by
    have h1 := ats_le a
    have h2 := ats_le b
    have h3 := pow_max a.dep b.dep
    show a.ats + b.ats ≤ 2 ^ (max a.dep b.dep + 1)
    rw [Nat.pow_succ]
    omega
  | .either a b => by
    have h1 := ats_le a
    have h2 := ats_le b
    have h3 := pow_max a.dep b.dep
    show a.ats + b.ats ≤ 2 ^ (max a.dep b.dep + 1)
    rw [Nat.pow_succ]
    omega
  | .rep a => by
    have h1 := ats_le a
    show a.ats ≤ 2 ^ (a.dep + 1)
    rw [Nat.pow_succ]
    omega
  | .opt a => by
    have h1 := ats_le a
    show a.ats ≤ 2 ^ (a.dep + 1)
    rw [Nat.pow_succ]
    omega
theorem ops_le : ∀ t : Tr, t.ops + 1 ≤ 2 ^ t.dep
  | .at _ _ => Nat.le_refl _
  | .join a b => by
    have h1 := ops_le a
    have h2 := ops_le b
    have h3 := pow_max a.dep b.dep
    show a.ops + b.ops + 1 + 1 ≤ 2 ^ (max a.dep b.dep + 1)
    rw [Nat.pow_succ]
    omega
  | .either a b => by
    have h1 := ops_le a
    have h2 := ops_le b
    have h3 := pow_max a.dep b.dep
    show a.ops + b.ops + 1 ≤ 2 ^ (max a.dep b.dep + 1)
    rw [Nat.pow_succ]
    omega
  | .rep a => by
    have h1 := ops_le a
    have : 1 ≤ 2 ^ a.dep := Nat.one_le_two_pow
    show a.ops + 1 + 1 ≤ 2 ^ (a.dep + 1)
    rw [Nat.pow_succ]
    omega
  | .opt a => by
    have h1 := ops_le a
    show a.ops + 1 ≤ 2 ^ (a.dep + 1)
    rw [Nat.pow_succ]
    omega
theorem nice_sm {t : Tr} (h : niceT t) (hd : t.dep ≤ 3) : t.sm := by
  have p3 : 2 ^ t.dep ≤ 2 ^ 3 := Nat.pow_le_pow_right (by decide) hd
  have h1 := ats_le t
  have h2 := ops_le t
  have e : (2 : Nat) ^ 3 = 8 := by decide
  refine sm_of (n := 8) (nice_few h) (by omega) (by decide) ?_
  have : t.ops ≤ 7 := by omega
  calc t.ops * (8 * 8) ≤ 7 * (8 * 8) := Nat.mul_le_mul_right _ this
    _ ≤ 90000 := by decide
end DL

/-! FG: patterns turned about and multiplied (own work). -/
namespace DL
open PySem L2 PySem.W
/-- so many one behind another -/
def powT (t : Tr) : Nat → Tr
  | 0 => t
  | n + 1 => .join (powT t n) t
theorem powT_dep (t : Tr) : ∀ n, (powT t n).dep ≤ t.dep + n
  | 0 => Nat.le_refl _
  | n + 1 => by
    have := powT_dep t n
    show max (powT t n).dep t.dep + 1 ≤ t.dep + (n + 1)
    omega
theorem powT_nice {t : Tr} (h : niceT t) : ∀ n, niceT (powT t n)
  | 0 => h
  | n + 1 => ⟨powT_nice h n, h⟩
theorem powT_ats (t : Tr) : ∀ n, (powT t n).ats = (n + 1) * t.ats ∧ (powT t n).ops = (n + 1) * t.ops + n
  | 0 => by simp [powT]
  | n + 1 => by
    obtain ⟨h1, h2⟩ := powT_ats t n
    constructor
    · show (powT t n).ats + t.ats = _
      rw [h1, Nat.succ_mul (n + 1)]
    · show (powT t n).ops + t.ops + 1 = _
      rw [h2, Nat.succ_mul (n + 1)]
      omega
/-- one lane out of some, so often -/
theorem pow_lane {ns : List Str} : ∀ (n : Nat) (w : List Str), Lg (powT (.at true ns) n) w ↔ w.length = n + 1 ∧ ∀ x ∈ w, x ∈ ns
  | 0, w => by
    constructor
    · rintro ⟨x, rfl, hx⟩
      refine ⟨rfl, fun y hy => ?_⟩
      rw [List.mem_singleton.mp hy]
      simpa [atB] using hx
    · rintro ⟨hl, h⟩
      obtain ⟨x, rfl⟩ := List.length_eq_one_iff.mp hl
      exact ⟨x, rfl, by simpa [atB] using h x List.mem_cons_self⟩
  | n + 1, w => by
    constructor
    · rintro ⟨u, v, rfl, hu, x, rfl, hx⟩
      obtain ⟨h1, h2⟩ := (pow_lane n u).mp hu
      refine ⟨by rw [List.length_append, h1]; rfl, fun y hy => ?_⟩
      rcases List.mem_append.mp hy with hy | hy
      · exact h2 y hy
      · rw [List.mem_singleton.mp hy]
        simpa [atB] using hx
    · rintro ⟨hl, h⟩
      have hw : w ≠ [] := fun z => by rw [z] at hl; cases hl
      refine ⟨w.dropLast, [w.getLast hw], (List.dropLast_concat_getLast hw).symm, (pow_lane n _).mpr ⟨by rw [List.length_dropLast, hl]; rfl, fun x hx => h x ((List.dropLast_sublist w).subset hx)⟩, _, rfl, ?_⟩
      simpa [atB] using h _ (List.getLast_mem hw)
/-- one sequence of lanes -/
def wdT : Str → List Str → Tr
  | x, l => l.foldl (fun t y => .join t (.at true [y])) (.at true [x])
theorem wdT_snoc (x y : Str) (l : List Str) : wdT x (l ++ [y]) = .join (wdT x l) (.at true [y]) := by
  show List.foldl _ _ (l ++ [y]) = _
  rw [List.foldl_append]
  rfl
end DL
namespace DL
open PySem L2 PySem.W
end DL

/-! FH: errors without fields handed on (own work). -/
namespace DL
open PySem L2 PySem.W
section
variable {K : PySem.W.Frag} {B F0 : Hp} {ro : Ro} {ka k1 k2 : Cells} {ta : List (V × W)} {te tf : TE} {tr : TA} {De : Ends} {u : TS} {C1 : Addr} {gs : List (Str × D)} {out : Oc} {E : XK} {w : W}
theorem g_dropP0 (hX : RxOk K B F0 out E) (h : EvX0 K te ro ka E C1 k2) (o : out (.exc0 C1) k2) : Gp K B F0 ta (tDrop te De) ro ka := fun sg H e => h B F0 ta sg H _ e fun H' e' => hX.2 C1 k2 H' o e'.leaveX
theorem q_dropP0 (hX : RxOk K B F0 out E) (h : EvX0 K te ro ka E C1 k2) (o : out (.exc0 C1) k2) : Gp K B F0 ta (tSeq (tDrop te) u De) ro ka := g_dropP0 (De := { De with nx := u De }) hX h o
theorem g_retP0 (hX : RxOk K B F0 out E) (h : EvX0 K te ro ka E C1 k2) (o : out (.exc0 C1) k2) : Gp K B F0 ta (tRet te De) ro ka := fun sg H e => h B F0 ta sg H _ e fun H' e' => hX.2 C1 k2 H' o e'.leaveX
theorem g_retPX (hX : RxOk K B F0 out E) (h : EvX K te ro ka E C1 gs k2) (o : out (.exc C1 gs) k2) : Gp K B F0 ta (tRet te De) ro ka := fun sg H e => h B F0 ta sg H _ e fun dx H' e' => hX.1 C1 gs k2 dx H' o e'.leaveX
/-- f(g(..)) where g raises -/
theorem evx_arg {sp : Sp} {E' : XK} {dvs : List V} (h : EvX K te ro ka E C1 gs k2) : EvX K (tCall sp dvs E' (tCons te tr)) ro ka E C1 gs k2 := fun B F0 ta sg H Q e q => h B F0 ta sg H _ e q
theorem evx0_arg {sp : Sp} {E' : XK} {dvs : List V} (h : EvX0 K te ro ka E C1 k2) : EvX0 K (tCall sp dvs E' (tCons te tr)) ro ka E C1 k2 := fun B F0 ta sg H Q e q => h B F0 ta sg H _ e q
/-- x.f where x raises -/
theorem evx_fld {f : Str} (h : EvX K te ro ka E C1 gs k2) : EvX K (tFld K te f) ro ka E C1 gs k2 := fun B F0 ta sg H Q e q => h B F0 ta sg H _ e q
theorem evx0_fld {f : Str} (h : EvX0 K te ro ka E C1 k2) : EvX0 K (tFld K te f) ro ka E C1 k2 := fun B F0 ta sg H Q e q => h B F0 ta sg H _ e q
end
end DL

/-! FI: `is not` between truth values (own work). -/
namespace DL
open PySem L2 PySem.W
section
variable {K : PySem.W.Frag} {ro : Ro} {ka k1 k2 : Cells} {te tf : TE}
end
end DL

/-! FJ: dicts whose keys are tuples of any depth: read, asked, written (own work). -/
namespace DL
open PySem L2 PySem.W PyProof.Rows

/-! ### rows -/
/-- keys and values alone -/
def rowN {α : Type} (xs : List (NestedKey × Addr × α)) : List (NestedKey × α) := xs.map fun x => (x.1, x.2.2)
def setA {α : Type} (k : NestedKey) (v : α) (x : NestedKey × Addr × α) : NestedKey × Addr × α := if x.1 = k then (x.1, x.2.1, v) else x
/-- a key that stands keeps its place and its own thing -/
def putA {α : Type} (xs : List (NestedKey × Addr × α)) (k : NestedKey) (b : Addr) (v : α) : List (NestedKey × Addr × α) :=
  if hasT (rowN xs) k = true then xs.map (setA k v) else xs ++ [(k, b, v)]
section
variable {α : Type}
theorem rowN_put (xs : List (NestedKey × Addr × α)) (k : NestedKey) (b : Addr) (v : α) : rowN (putA xs k b v) = putT (rowN xs) k v := by
  unfold putA putT
  split
  · unfold rowN
    rw [List.map_map, List.map_map]
    refine List.map_congr_left fun x _ => ?_
    by_cases e : x.1 = k
    · simp only [Function.comp, setA, e, if_true, newAt]
    · simp only [Function.comp, setA, e, if_false, newAt]
  · unfold rowN
    rw [List.map_append]
    rfl
theorem putA_len (xs : List (NestedKey × Addr × α)) (k : NestedKey) (b : Addr) (v : α) : (putA xs k b v).length ≤ xs.length + 1 := by
  unfold putA
  split
  · rw [List.length_map]; omega
  · rw [List.length_append, List.length_cons, List.length_nil]; omega
/-- the keys of the new row stood, or are the new one -/
theorem putA_mem {xs : List (NestedKey × Addr × α)} {k : NestedKey} {b : Addr} {v : α} {q : NestedKey × Addr × α} (h : q ∈ putA xs k b v) : (q.1 = k ∧ q.2.1 = b) ∨ ∃ x ∈ xs, q.1 = x.1 ∧ q.2.1 = x.2.1 := by
  unfold putA at h
  split at h
  · obtain ⟨x, hx, rfl⟩ := List.mem_map.mp h
    refine .inr ⟨x, hx, ?_⟩
    unfold setA
    split <;> exact ⟨rfl, rfl⟩
  · rcases List.mem_append.mp h with h | h
    · exact .inr ⟨q, h, rfl, rfl⟩
    · rw [List.mem_singleton.mp h]
      exact .inl ⟨rfl, rfl⟩
end
/-- a row of values as they are seen, as they lie -/
abbrev SeesN : List (NestedKey × Addr × V) → List (NestedKey × Addr × Value) → Prop := Paired fun p q => p.1 = q.1 ∧ p.2.1 = q.2.1 ∧ RelV p.2.2 q.2.2
theorem SeesN.has {xs : List (NestedKey × Addr × V)} {qs : List (NestedKey × Addr × Value)} (r : SeesN xs qs) (k : NestedKey) :
    (getT (rowN xs) k = none ∧ hasT (rowN xs) k = false ∧ atKey qs k = none) ∨ ∃ v p, getT (rowN xs) k = some v ∧ hasT (rowN xs) k = true ∧ atKey qs k = some p ∧ RelV v p.2 := by
  unfold SeesN at r
  induction r with
  | nil => exact .inl ⟨rfl, rfl, rfl⟩
  | @cons p q ps qs h t ih =>
    obtain ⟨h1, h2, h3⟩ := h
    by_cases e : p.1 = k
    · refine .inr ⟨p.2.2, q.2, ?_, ?_, ?_, h3⟩
      · show getT ((p.1, p.2.2) :: rowN ps) k = _
        simp [getT, e]
      · show hasT ((p.1, p.2.2) :: rowN ps) k = _
        simp [hasT, e]
      · have e2 : q.1 = k := h1.symm.trans e
        simp [atKey, e2]
    · have e2 : ¬ q.1 = k := fun z => e (h1.trans z)
      have a1 : getT (rowN (p :: ps)) k = getT (rowN ps) k := by
        show getT ((p.1, p.2.2) :: rowN ps) k = _
        simp [getT, e]
      have a2 : hasT (rowN (p :: ps)) k = hasT (rowN ps) k := by
        show hasT ((p.1, p.2.2) :: rowN ps) k = _
        simp [hasT, e]
      have a3 : atKey (q :: qs) k = atKey qs k := by simp [atKey, e2]
      rw [a1, a2, a3]
      exact ih
theorem SeesN.put {xs : List (NestedKey × Addr × V)} {qs : List (NestedKey × Addr × Value)} (r : SeesN xs qs) (k : NestedKey) (b : Addr) {v : V} {u : Value} (rv : RelV v u) : SeesN (putA xs k b v) (storedH qs k b u) := by
  have hh : hasT (rowN xs) k = (atKey qs k).isSome := by
    rcases r.has k with ⟨_, h, h2⟩ | ⟨_, _, _, h, h2, _⟩ <;> rw [h, h2] <;> rfl
  unfold putA storedH
  rw [hh]
  split
  · unfold SeesN at r
    clear hh
    rename_i hx
    clear hx
    induction r with
    | nil => exact .nil
    | @cons p q ps qs h t ih =>
      obtain ⟨h1, h2, h3⟩ := h
      refine .cons ?_ ih
      unfold putAt setA
      by_cases e : p.1 = k
      · rw [if_pos e, if_pos (h1.symm.trans e)]
        exact ⟨h1, h2, rv⟩
      · rw [if_neg e, if_neg fun z => e (h1.trans z)]
        exact ⟨h1, h2, h3⟩
  · exact Paired.snoc r ⟨rfl, rfl, rv⟩

/-! ### in the heap -/
/-- the row holds whatever else the heap holds -/
theorem dnO_stay {w : World} {a : Addr} {xs : List (NestedKey × Addr × V)} {φ : Heap → Prop} (e : DnO w a xs = .ext φ) : ∀ h1 h2 : Heap, φ h1 → (∀ o, h1.get? a = some o → h2.get? a = some o) → φ h2 := by
  unfold DnO at e
  cases e
  rintro h1 h2 ⟨z, y, qs, r, o, es, ep, ho, t⟩ k
  exact ⟨z, y, qs, r, o, es, ep, k _ ho, t⟩
/-- all its keys stand where they are told -/
def NAt (K : PySem.W.Frag) (H : Hp) (w : World) (a : Addr) (xs : List (NestedKey × Addr × V)) : Prop := Rd H a (DnO w a xs) ∧ ∀ x ∈ xs, RkN K H x.1 (.ref x.2.1) ∧ x.1.depth ≤ 8
section
variable {X : Cx} {pins : List (Addr × Obj)} {σ : L2.St} {H : Hp} {s : Shared} {a b : Addr} {xs : List (NestedKey × Addr × V)}
mutual
theorem key_is (I : L2.Inv X pins σ H s) : ∀ (k : NestedKey) (v : V) (u : Value), RkN X.K H k v → RelV v u → NestedIs s.heap k u
  | .none, _, _, h, r => by
    subst h
    cases (show _ = Value.none from r)
    exact .none
  | .num i, _, _, h, r => by
    subst h
    obtain ⟨t, rfl⟩ := (show ∃ t, _ = Value.int i t from r)
    exact .int i t
  | .text x, _, _, h, r => by
    subst h
    obtain ⟨t, rfl⟩ := (show ∃ t, _ = Value.str x t from r)
    exact .text x t
  | .tup ks, _, _, h, r => by
    obtain ⟨c, ys, rfl, h1, h2⟩ := h
    cases (show _ = Value.ref c from r)
    obtain ⟨its, rel, ⟨o, ho, hc, n, hd⟩, _⟩ := I.tuple h1
    exact .tup ho hc hd (by simpa using keys_are I ks ys its h2 rel)
theorem keys_are (I : L2.Inv X pins σ H s) : ∀ (ks : List NestedKey) (vs : List V) (us : List Value), RkL X.K H ks vs → Vals vs us → NestedAll s.heap ks us
  | [], _, us, h, r => by
    subst h
    cases r
    exact .nil
  | k :: ks, _, us, h, r => by
    obtain ⟨x, ys, rfl, h1, h2⟩ := h
    cases r with
    | cons r1 r2 => exact .cons (key_is I k x _ h1 r1) (keys_are I ks ys _ h2 r2)
end
theorem dn_at (I : L2.Inv X pins σ H s) (n : NAt X.K H X.w a xs) : xs.length ≤ sizeLine ∧ (a == sysModules) = false ∧ ∃ qs, SeesN xs qs ∧ s.heap.DictOfH (nestedKind X.prog X.w) a qs := by
  obtain ⟨z, y, qs, r, o, es, ep, ho, hc, hd, he, hn⟩ := (show ObjOk X.prog X.w H s.heap a (DnO X.w a xs) from n.1.ok I.hok).1
  refine ⟨z, y, qs, r, o, es, ep, ho, hc, hd, he, ?_, hn⟩
  have all : ∀ {l : List (NestedKey × Addr × V)} {m : List (NestedKey × Addr × Value)}, SeesN l m → (∀ x ∈ l, RkN X.K H x.1 (.ref x.2.1) ∧ x.1.depth ≤ 8) → ∀ x ∈ m, (nestedKind X.prog X.w).is s.heap x.1 x.2.1 := by
    intro l m q
    unfold SeesN at q
    induction q with
    | nil => exact fun _ x hx => nomatch hx
    | @cons p q ps qs hq t ih =>
      intro hl x hx
      rcases List.mem_cons.mp hx with rfl | hx
      · obtain ⟨k1, k2⟩ := hl p List.mem_cons_self
        obtain ⟨e1, e2, _⟩ := hq
        rw [← e1, ← e2]
        exact ⟨key_is I _ _ _ k1 rfl, k2⟩
      · exact ih (fun y hy => hl y (List.mem_cons_of_mem _ hy)) x hx
  exact all r n.2
theorem key_room {A : Around} (hu : A.units + 16 < cLine) : (nestedKind X.prog X.w).room A.in1 := by
  show A.in1.units + 8 < cLine
  rw [Around.in1_units]
  omega
/-- another row is laid at the dict's address -/
theorem dn_put (I : L2.Inv X pins σ H s) (e : H a = some (DnO X.w a xs)) {ys : List (NestedKey × Addr × V)} {qs : List (NestedKey × Addr × Value)} {h' : Heap} {t' : Nat} (z : ys.length ≤ sizeLine) (y : (a == sysModules) = false) (r : SeesN ys qs) (dd : h'.DictOfH (nestedKind X.prog X.w) a qs) (hs : Heap.SameBut a s.heap h') :
    L2.Inv X pins σ (upd H a (DnO X.w a ys)) { s with heap := h', toks := t' } := by
  obtain ⟨o, es, ep, ho, hc, hd, he, _, hn⟩ := dd
  refine d_write I (by rw [e]; exact True.intro) hs ⟨o, ho⟩ ⟨⟨z, y, qs, r, o, es, ep, ho, hc, hd, he, hn⟩, ⟨o, ho⟩, dnO_stay rfl⟩
end

theorem hu16 {k : Nat} {A : Around} (r : Room k A) : A.units + 16 < cLine := by
  have := r.un
  omega
def tNNotIn (K : PySem.W.Frag) (w : World) (ty td : TE) : TE := fun σ H Q => ty σ H fun y H1 => td σ H1 fun x H2 => ∃ a xs k b, x = .ref a ∧ y = .ref b ∧ NAt K H2 w a xs ∧ RkN K H2 k (.ref b) ∧ k.depth ≤ 8 ∧ Q (.bl (!(getT (rowN xs) k).isSome)) H2
/-- d[y] = v -/
def sNPut (K : PySem.W.Frag) (w : World) (td ty tv : TE) : TS := fun D σ H => tv σ H fun v H1 => td σ H1 fun x H2 => ty σ H2 fun y H3 => ∃ a xs k b, x = .ref a ∧ y = .ref b ∧ H3 a = some (DnO w a xs) ∧ NAt K H3 w a xs ∧ RkN K H3 k (.ref b) ∧ k.depth ≤ 8 ∧ xs.length < sizeLine ∧ D.nx σ (upd H3 a (DnO w a (putA xs k b v)))
/-- {} -/
def tNNew (w : World) : TE := fun _ H Q => ∀ p, H p = none → Q (.ref p) (upd H p (DnO w p []))
section
variable {X : Cx} {o i value : Expr} {pos pos' : Pos} {td ty tv tk : TE}
theorem pc_nnot (hu : X.A.units + 16 < cLine) (hi : PE X i ty) (ho : PE X o td) : PC X .NotIn i o (tNNotIn X.K X.w ty td) := ⟨fun pins s σ H Q I h => by
  refine thn (hi.run pins s σ H _ I h) fun iv s1 ⟨y, H1, I1, ry, q1⟩ => thn (ho.run pins s1 σ H1 _ I1 q1) fun u s2 ⟨x, H2, I2, rx, a, xs, k, b, ex, ey, n, hk, dk, q2⟩ => ?_
  subst ex ey
  cases (show u = Value.ref a from rx)
  cases (show iv = Value.ref b from ry)
  obtain ⟨_, hd, qs, r, dd⟩ := dn_at I2 n
  refine wpAny_notIn_heap (key_room hu) ⟨key_is I2 _ _ _ hk rfl, dk⟩ hd dd ?_
  rcases r.has k with ⟨z, _, z2⟩ | ⟨v', p, z, _, z2, _⟩ <;> rw [z] at q2 <;> rw [z2] <;> exact ⟨.bl _, H2, I2.tok _, rfl, q2⟩⟩
theorem ps_nput (hu : X.A.units + 16 < cLine) (ho : PE X o td) (hi : PE X i ty) (hv : PE X value tv) (hs : swapsWith value (some (.Subscript o i pos')) pos.line X.env = pure false) : PS X (.Assign [.Subscript o i pos'] value pos) (sNPut X.K X.w td ty tv) := ⟨fun pins s σ H D I h => by
  refine wpAny_Assign_Subscript (thn (hv.run pins s σ H _ I h) fun r s1 ⟨v, H1, I1, rv, q1⟩ => thn (ho.run pins s1 σ H1 _ I1 q1) fun u s2 ⟨x, H2, I2, rx, q2⟩ => thn (hi.run pins s2 σ H2 _ I2 q2) fun iv s3 ⟨y, H3, I3, ry, a, xs, k, b, ex, ey, e, n, hk, dk, few, q3⟩ => ?_) hs
  subst ex ey
  cases (show u = Value.ref a from rx)
  cases (show iv = Value.ref b from ry)
  obtain ⟨z, hd, qs, rel, dd⟩ := dn_at I3 n
  have zq : qs.length ≤ sizeLine := by rw [← Paired.length rel]; exact z
  exact wpAny_setItem_heap (hsz := zq) (key_room hu) ⟨key_is I3 _ _ _ hk rfl, dk⟩ dd fun h' dd' hs' => ⟨σ, _, dn_put I3 e (Nat.le_trans (putA_len ..) few) hd (rel.put k b rv) dd' hs', q3⟩⟩
/-- an empty dict just laid -/
theorem dn_new {pins : List (Addr × Obj)} {σ : L2.St} {H : Hp} {s : Shared} (I : L2.Inv X pins σ H s) : L2.Inv X pins σ (upd H s.heap.objs.size (DnO X.w s.heap.objs.size [])) { s with heap := s.heap.push { cls := .type "dict", data := .dict #[] } } :=
  I.laid (t' := s.toks) (fun _ _ q => Heap.get?_push_of_some _ q) (Nat.le_refl _)
    ⟨⟨Nat.zero_le _, beq_eq_false_iff_ne.mpr (Ne.symm (Nat.ne_of_lt I.big)), [], .nil, _, #[], 0, Heap.get?_push_size _ rfl, ⟨rfl, rfl, rfl⟩, rfl, rfl, List.nodup_nil⟩, ⟨_, Heap.get?_push_size _ rfl⟩, dnO_stay rfl⟩
theorem pe_nnew : PE X (.Dict [] [] pos) (tNNew X.w) := ⟨fun pins s σ H Q I h => wpAny_Dict_empty ⟨.ref _, _, dn_new I, rfl, h _ (I.hok.fresh (Nat.le_refl _))⟩⟩
end
end DL

/-! FK: dicts with nested keys, by data (own work). -/
namespace DL
open PySem L2 PySem.W

/-! ### keys as data -/
mutual
def nkD : NestedKey → D
  | .none => .non
  | .num i => .int i
  | .text s => .str s
  | .tup ks => .tup (nkDs ks)
def nkDs : List NestedKey → List D
  | [] => []
  | k :: ks => nkD k :: nkDs ks
end
section
variable {K : PySem.W.Frag} {F : Hp}
mutual
theorem rk_iff : ∀ (k : NestedKey) (v : V), RkN K F k v ↔ Rp K F (nkD k) v
  | .none, _ => Iff.rfl
  | .num _, _ => Iff.rfl
  | .text _, _ => Iff.rfl
  | .tup ks, v => ⟨fun ⟨a, xs, e, h1, h2⟩ => ⟨a, xs, e, h1, (rks_iff ks xs).mp h2⟩, fun ⟨a, xs, e, h1, h2⟩ => ⟨a, xs, e, h1, (rks_iff ks xs).mpr h2⟩⟩
theorem rks_iff : ∀ (ks : List NestedKey) (vs : List V), RkL K F ks vs ↔ RpL K F (nkDs ks) vs
  | [], _ => Iff.rfl
  | k :: ks, vs => ⟨fun ⟨x, ys, e, h1, h2⟩ => ⟨x, ys, e, (rk_iff k x).mp h1, (rks_iff ks ys).mp h2⟩, fun ⟨x, ys, e, h1, h2⟩ => ⟨x, ys, e, (rk_iff k x).mpr h1, (rks_iff ks ys).mpr h2⟩⟩
end
end
/-- numbers, texts as keys -/
def nmK (ns : List Nat) : NestedKey := .tup (ns.map fun (n : Nat) => .num (n : Int))
theorem nkDs_map {α : Type} {f : α → NestedKey} : ∀ xs : List α, nkDs (xs.map f) = xs.map fun x => nkD (f x)
  | [] => rfl
  | x :: xs => by rw [List.map_cons, nkDs, nkDs_map xs, List.map_cons]
theorem nkD_nm (ns : List Nat) : nkD (nmK ns) = .tup (nmD ns) := by
  unfold nmK
  rw [nkD, nkDs_map]
  rfl
theorem dep_flat {α : Type} {f : α → NestedKey} (h : ∀ x, (f x).depth = 0) : ∀ xs : List α, NestedKey.depthAll (xs.map f) = 0
  | [] => rfl
  | x :: xs => by rw [List.map_cons, NestedKey.depthAll, h x, dep_flat h xs]; rfl
theorem dep_nm (ns : List Nat) : (nmK ns).depth = 1 := by
  unfold nmK
  rw [NestedKey.depth, dep_flat fun _ => rfl]
theorem nm_inj {a b : List Nat} (h : nmK a = nmK b) : a = b := by
  unfold nmK at h
  injection h with h
  refine List.map_inj_right (fun x y e => ?_) |>.mp h
  injection e with e
  exact Int.ofNat.inj e
/-! ### rows -/
section
variable {K : PySem.W.Frag} {F : Hp}
theorem rpn_pt : ∀ {ds : List (NestedKey × D)} {xs : List (NestedKey × Addr × V)}, RpN K F ds xs → PT (Rp K F) ds (rowN xs)
  | [], xs, h => by rw [show xs = [] from h]; rfl
  | (k, d) :: ds, xs, h => by
    obtain ⟨b, x, ys, rfl, _, h1, h2⟩ := h
    exact ⟨x, rowN ys, rfl, h1, rpn_pt h2⟩
theorem rpn_keys : ∀ {ds : List (NestedKey × D)} {xs : List (NestedKey × Addr × V)}, RpN K F ds xs → ∀ x ∈ xs, RkN K F x.1 (.ref x.2.1) ∧ x.1.depth ≤ 8
  | [], xs, h => by rw [show xs = [] from h]; exact fun _ hx => nomatch hx
  | (k, d) :: ds, xs, h => by
    obtain ⟨b, x, ys, rfl, h0, h1, h2⟩ := h
    intro y hy
    rcases List.mem_cons.mp hy with rfl | hy
    · exact h0
    · exact rpn_keys h2 y hy
theorem rpn_mk : ∀ {ds : List (NestedKey × D)} {xs : List (NestedKey × Addr × V)}, PT (Rp K F) ds (rowN xs) → (∀ x ∈ xs, RkN K F x.1 (.ref x.2.1) ∧ x.1.depth ≤ 8) → RpN K F ds xs
  | [], [], _, _ => rfl
  | [], x :: xs, h, _ => by cases (show rowN (x :: xs) = [] from h)
  | (k, d) :: ds, [], h, _ => by
    obtain ⟨x, ys, e, _⟩ := h
    cases e
  | (k, d) :: ds, (k', b, v) :: xs, h, q => by
    obtain ⟨x, ys, e, h1, h2⟩ := h
    cases e
    exact ⟨b, v, xs, rfl, q _ List.mem_cons_self, h1, rpn_mk h2 fun y hy => q y (List.mem_cons_of_mem _ hy)⟩
theorem rpn_put {ds : List (NestedKey × D)} {xs : List (NestedKey × Addr × V)} (h : RpN K F ds xs) {k : NestedKey} {b : Addr} {d : D} {v : V} (hk : RkN K F k (.ref b)) (dk : k.depth ≤ 8) (hv : Rp K F d v) : RpN K F (putT ds k d) (putA xs k b v) := by
  refine rpn_mk (by rw [rowN_put]; exact (rpn_pt h).put k hv) fun x hx => ?_
  rcases putA_mem hx with ⟨e1, e2⟩ | ⟨y, hy, e1, e2⟩
  · rw [e1, e2]
    exact ⟨hk, dk⟩
  · rw [e1, e2]
    exact rpn_keys h y hy
theorem rpn_len {ds : List (NestedKey × D)} {xs : List (NestedKey × Addr × V)} (h : RpN K F ds xs) : xs.length = ds.length := by
  have := (rpn_pt h).len
  unfold rowN at this
  rwa [List.length_map] at this
end

/-! ### read and written -/
/-- w is a dict of ds with nested keys; b: viewed -/
inductive Dn (wd : World) (ka : Cells) : W → List (NestedKey × D) → Bool → Prop where
  | v {ds : List (NestedKey × D)} : Dn wd ka (.val (.din wd ds)) ds false
  | w {ds : List (NestedKey × D)} : Dn wd ka (.vw (.din wd ds)) ds true
  | ce {a : Addr} {ds : List (NestedKey × D)} (j : Nat) (h : ka[j]? = some (a, .din wd ds)) : Dn wd ka (.val (.adr a)) ds false
section
variable {wd : World} {K : PySem.W.Frag} {B B' F F' F0 : Hp} {ro ro' : Ro} {ka k1 k2 k3 kr : Cells} {ta : List (V × W)} {sg sg' : L2.St} {H H' : Hp} {te tf tg td ty tk tv : TE} {w x y z : W} {n m : Nd} {a : Addr} {b : Bool} {De : Ends} {t u : TS} {ds : List (NestedKey × D)} {k : NestedKey} {ks : List NestedKey} {d : D}
theorem Dn.get {v : V} (l : Dn wd ka w ds b) (e : EnF K B F ro ka ta sg H) (h : WOk K B F v w) : ∃ a xs, v = .ref a ∧ NAt K H wd a xs ∧ RpN K (if b then uni B F else F) ds xs := by
  cases l with
  | v =>
    obtain ⟨a, xs, rfl, h1, h2⟩ := h
    exact ⟨a, xs, rfl, ⟨e.fz.rd e.nz h1, fun x hx => ⟨RkN.mono e.fz e.nz _ _ (rpn_keys h2 x hx).1, (rpn_keys h2 x hx).2⟩⟩, h2⟩
  | w =>
    obtain ⟨a, xs, rfl, h1, h2⟩ := h
    have z := uni_exz e.fz e.fr
    have nz := uni_nz (B := B) e.nz
    exact ⟨a, xs, rfl, ⟨z.rd nz h1, fun x hx => ⟨RkN.mono z nz _ _ (rpn_keys h2 x hx).1, (rpn_keys h2 x hx).2⟩⟩, h2⟩
  | ce j hj =>
    obtain rfl : v = .ref _ := h
    obtain ⟨_, _, xs, h1, h2⟩ := e.ce _ (List.mem_of_getElem? hj)
    exact ⟨_, xs, rfl, ⟨.inl h1, fun x hx => ⟨RkN.mono e.fz e.nz _ _ (rpn_keys h2 x hx).1, (rpn_keys h2 x hx).2⟩⟩, h2⟩
/-- a tuple held as data is the key, at its place -/
theorem EnF.nk (e : EnF K B F ro ka ta sg H) {v : V} (h : WOk K B F v (.val (nkD (.tup ks)))) : ∃ c, v = .ref c ∧ RkN K F (.tup ks) (.ref c) ∧ RkN K H (.tup ks) (.ref c) := by
  have q := (rk_iff (.tup ks) v).mpr h
  obtain ⟨c, xs, rfl, h1, h2⟩ := q
  exact ⟨c, rfl, (rk_iff _ _).mpr h, RkN.mono e.fz e.nz _ _ ((rk_iff _ _).mpr h)⟩
theorem isSome_rp {xs : List (NestedKey × V)} (h : PT (Rp K F) ds xs) (k : NestedKey) : (getT xs k).isSome = (getT ds k).isSome := by
  cases q : getT ds k with
  | none =>
    rw [(h.get k).1 q]
    rfl
  | some d =>
    obtain ⟨x, hx, _⟩ := (h.get k).2 d q
    rw [hx]
    rfl
theorem ev_nni (h : EvD K ty ro ka (.val (nkD (.tup ks))) k1) (h2 : EvD K td ro k1 w k2) (l : Dn wd k2 w ds b) (dk : (NestedKey.tup ks).depth ≤ 8) : EvD K (tNNotIn K wd ty td) ro ka (.val (.bl (!(getT ds (.tup ks)).isSome))) k2 := fun B F0 ta sg H Q e q =>
  h B F0 ta sg H _ e fun u H1 e1 => h2 B F0 _ sg H1 _ e1 fun v H2 ⟨F, g, ef⟩ => by
    obtain ⟨c, rfl, _, hk⟩ := ef.nk (ef.tm (u, _) (List.mem_cons_of_mem _ List.mem_cons_self))
    obtain ⟨a, xs, rfl, h3, h4⟩ := l.get ef (ef.tm (v, w) List.mem_cons_self)
    refine ⟨a, xs, .tup ks, c, rfl, rfl, h3, hk, dk, q _ _ ?_⟩
    rw [isSome_rp (rpn_pt h4)]
    exact (show En K B F0 ro k2 ta sg H2 from ⟨F, g, ef.held (ta' := ta) fun p hp => List.mem_cons_of_mem _ (List.mem_cons_of_mem _ hp)⟩).push_imm fun _ => rfl
/-- d[key] = v -/
theorem g_nput {j : Nat} (hv : EvD K tv ro ka (.val d) k1) (ho : EvD K td ro k1 (.val (.adr a)) k2) (hi : EvD K ty ro k2 (.val (nkD (.tup ks))) k3) (hj : k3[j]? = some (a, .din wd ds)) (dk : (NestedKey.tup ks).depth ≤ 8) (hz : ds.length < 100000)
    (q : Gp K B F0 ta De.nx ro (k3.set j (a, .din wd (putT ds (.tup ks) d)))) : Gp K B F0 ta (sNPut K wd td ty tv De) ro ka := fun sg H e =>
  hv B F0 ta sg H _ e fun v H1 e1 => ho B F0 _ sg H1 _ e1 fun u H2 e2 => hi B F0 _ sg H2 _ e2 fun y H3 e3 => by
    have hu := e3.tm_adr (v := u) (a := a) (List.mem_cons_of_mem _ List.mem_cons_self)
    subst hu
    obtain ⟨F, g, ef, xs, hx, rx⟩ := e3.cellAt hj
    obtain ⟨c, rfl, hk, hk2⟩ := ef.nk (ef.tm (y, _) List.mem_cons_self)
    have hvd := ef.tm (v, .val d) (List.mem_cons_of_mem _ (List.mem_cons_of_mem _ List.mem_cons_self))
    have n : NAt K H3 wd a xs := ⟨.inl hx, fun x hx => ⟨RkN.mono ef.fz ef.nz _ _ (rpn_keys rx x hx).1, (rpn_keys rx x hx).2⟩⟩
    refine ⟨a, xs, .tup ks, c, rfl, rfl, hx, n, hk2, dk, ?_, q _ _ ⟨F, g, ?_⟩⟩
    · rw [rpn_len rx]
      exact Nat.lt_of_lt_of_le hz (by decide : 100000 ≤ sizeLine)
    · exact (ef.write (o := DnO wd a (putA xs (.tup ks) c v)) (n' := .din wd (putT ds (.tup ks) d)) hj ⟨_, upd_same, rpn_put rx hk dk hvd⟩).held fun p hp => List.mem_cons_of_mem _ (List.mem_cons_of_mem _ (List.mem_cons_of_mem _ hp))
theorem q_nput {j : Nat} (hv : EvD K tv ro ka (.val d) k1) (ho : EvD K td ro k1 (.val (.adr a)) k2) (hi : EvD K ty ro k2 (.val (nkD (.tup ks))) k3) (hj : k3[j]? = some (a, .din wd ds)) (dk : (NestedKey.tup ks).depth ≤ 8) (hz : ds.length < 100000)
    (q : Gp K B F0 ta (u De) ro (k3.set j (a, .din wd (putT ds (.tup ks) d)))) : Gp K B F0 ta (tSeq (sNPut K wd td ty tv) u De) ro ka := g_nput (De := { De with nx := u De }) hv ho hi hj dk hz q
/-- an expression that makes a new cell, as one that comes back with its place -/
theorem EvN.adr (h : EvN K te ro ka n k1) : EvR K te ro ka fun w k => ∃ c, w = .val (.adr c) ∧ k = k1 ++ [(c, n)] := fun B F0 ta sg H Q e q =>
  h B F0 ta sg H Q e fun c H' e1 => q _ _ _ _ ⟨c, rfl, rfl⟩ (e1.tmA c)
/-- {} -/
theorem evn_nnew : EvN K (tNNew wd) ro ka (.din wd []) ka := fun B F0 ta sg H Q e q => fun p hp => by
  obtain ⟨F, g, e⟩ := e
  exact q p _ ⟨F, g, e.cell (o := DnO wd p []) hp (n := .din wd []) ⟨[], upd_same, rfl⟩⟩
/-- a dict of nested keys, frozen -/
theorem En.freeze_n (e : En K B F0 ro (ka ++ [(a, .din wd ds)]) ta sg H) : En K B F0 ro ka ((.ref a, .val (.din wd ds)) :: ta) sg H := by
  obtain ⟨F, g, e⟩ := e
  obtain ⟨fa, ba, xs, ha, rl⟩ := e.ce (a, .din wd ds) (by simp)
  have gg : Gr B F (upd F a (DnO wd a xs)) := ⟨Sub.new fa, fun b h1 h2 => by
    have ne : b ≠ a := fun q => h2 (q ▸ ba)
    rw [upd_ne ne]
    exact h1⟩
  have nd2 := e.nd
  rw [List.map_append, List.nodup_append] at nd2
  refine ⟨_, g.trans gg, ⟨fun b u h => ?_, fun b u h => ?_, e.fr, nd2.1, fun q hq => ?_, e.ln, fun i w h => ?_, fun q hq => ?_⟩⟩
  · by_cases hb : b = a
    · subst hb; rw [upd_same] at h; cases h; rfl
    · rw [upd_ne hb] at h; exact e.nz b u h
  · by_cases hb : b = a
    · subst hb; rw [upd_same] at h; cases h; exact .inl ha
    · rw [upd_ne hb] at h; exact e.fz b u h
  · obtain ⟨h1, h2, h3⟩ := e.ce q (List.mem_append_left _ hq)
    have nq : q.1 ≠ a := fun z => nd2.2.2 q.1 (List.mem_map.mpr ⟨q, hq, rfl⟩) a (by simp) z
    exact ⟨by rw [upd_ne nq]; exact h1, h2, ndok_gr e.nz gg h3⟩
  · obtain ⟨v, h1, h2⟩ := e.sl i w h
    exact ⟨v, h1, wok_gr e.nz gg h2⟩
  · rcases List.mem_cons.mp hq with rfl | hq
    · exact ⟨a, xs, rfl, .inl upd_same, RpN.mono gg.sub.exz e.nz _ _ rl⟩
    · exact wok_gr e.nz gg (e.tm q hq)
theorem EvN.din (h : EvN K te ro ka (.din wd ds) k1) : EvD K te ro ka (.val (.din wd ds)) k1 := fun B F0 ta sg H Q e q => h B F0 ta sg H Q e fun a H1 e1 => q _ _ e1.freeze_n
end
end DL

/-! FL: searches by levels in plain Lean; sub-rows; what a machine has begun (own work). -/
namespace DL
open PySem L2 PySem.W

/-! ### sub-rows -/
def subs {α : Type} : List α → List (List α)
  | [] => [[]]
  | x :: xs => subs xs ++ (subs xs).map (x :: ·)
theorem subs_len {α : Type} : ∀ xs : List α, (subs xs).length = 2 ^ xs.length
  | [] => rfl
  | x :: xs => by
    rw [subs, List.length_append, List.length_map, subs_len xs, List.length_cons, Nat.pow_succ]
    omega
theorem flt_subs {α : Type} (p : α → Bool) : ∀ xs : List α, xs.filter p ∈ subs xs
  | [] => List.mem_singleton.mpr rfl
  | x :: xs => by
    rw [subs, List.filter_cons]
    split
    · exact List.mem_append_right _ (List.mem_map.mpr ⟨_, flt_subs p xs, rfl⟩)
    · exact List.mem_append_left _ (flt_subs p xs)
/-- different things out of a row are no more than it -/
theorem nd_sub {α : Type} [DecidableEq α] : ∀ {xs ys : List α}, xs.Nodup → (∀ x ∈ xs, x ∈ ys) → xs.length ≤ ys.length
  | [], _, _, _ => Nat.zero_le _
  | x :: xs, ys, hn, h => by
    have hx := h x List.mem_cons_self
    obtain ⟨h1, h2⟩ := List.nodup_cons.mp hn
    have := nd_sub (ys := ys.erase x) h2 fun y hy => (List.mem_erase_of_ne fun e => by subst e; exact h1 hy).mpr (h y (List.mem_cons_of_mem _ hy))
    rw [List.length_erase_of_mem hx] at this
    have := List.length_pos_of_mem hx
    rw [List.length_cons]
    omega

/-! ### ways along edges that have names -/
section
variable {α : Type} [DecidableEq α]
/-- from s by these names to v -/
inductive Pt (sc : α → List (Str × α)) (s : α) : List Str → α → Prop where
  | nil : Pt sc s [] s
  | snoc {ls : List Str} {x : α} {e : Str × α} (h : Pt sc s ls x) (he : e ∈ sc x) : Pt sc s (ls ++ [e.1]) e.2
/-- a search: the things met, each by a way; the first `at` are done, of the next the edges E -/
structure BIn (sc : α → List (Str × α)) (s : α) (at_ : Nat) (E : List (Str × α)) (qs : List (α × List Str)) : Prop where
  nd : (qs.map (·.1)).Nodup
  ini : qs[0]? = some (s, [])
  pt : ∀ q ∈ qs, Pt sc s q.2 q.1
  mono : ∀ (i j : Nat) (p q : α × List Str), i ≤ j → qs[i]? = some p → qs[j]? = some q → p.2.length ≤ q.2.length
  lev : ∀ c, qs[at_]? = some c → ∀ q ∈ qs, q.2.length ≤ c.2.length + 1
  cl : ∀ (i : Nat) (c : α × List Str), i < at_ → qs[i]? = some c → ∀ e ∈ sc c.1, ∃ q ∈ qs, q.1 = e.2 ∧ q.2.length ≤ c.2.length + 1
  cE : ∀ c, qs[at_]? = some c → ∀ e ∈ E, ∃ q ∈ qs, q.1 = e.2 ∧ q.2.length ≤ c.2.length + 1
variable {sc : α → List (Str × α)} {s : α} {at_ : Nat} {E : List (Str × α)} {qs : List (α × List Str)}
theorem BIn.start (sc : α → List (Str × α)) (s : α) : BIn sc s 0 [] [(s, [])] where
  nd := by simp
  ini := rfl
  pt := fun q hq => by
    rw [List.mem_singleton.mp hq]
    exact .nil
  mono := fun i j p q _ hp hq => by
    have h1 := List.mem_of_getElem? hp
    have h2 := List.mem_of_getElem? hq
    rw [List.mem_singleton.mp h1, List.mem_singleton.mp h2]
    exact Nat.le_refl _
  lev := fun c hc q hq => by
    rw [List.mem_singleton.mp hq]
    exact Nat.zero_le _
  cl := fun i c h => by omega
  cE := fun c _ e he => nomatch he
/-- an edge to what was met -/
theorem BIn.old (b : BIn sc s at_ E qs) {e : Str × α} (h : e.2 ∈ qs.map (·.1)) : BIn sc s at_ (E ++ [e]) qs := { b with
  cE := fun c hc e' he => by
    rcases List.mem_append.mp he with he | he
    · exact b.cE c hc e' he
    · rw [List.mem_singleton.mp he]
      obtain ⟨q, hq, e1⟩ := List.mem_map.mp h
      exact ⟨q, hq, e1, b.lev c hc q hq⟩ }
/-- an edge to a new thing -/
theorem BIn.new (b : BIn sc s at_ E qs) {c : α × List Str} (hc : qs[at_]? = some c) {e : Str × α} (he : e ∈ sc c.1) (h : e.2 ∉ qs.map (·.1)) : BIn sc s at_ (E ++ [e]) (qs ++ [(e.2, c.2 ++ [e.1])]) := by
  have hlt : at_ < qs.length := (List.getElem?_eq_some_iff.mp hc).1
  have old : ∀ {i : Nat} {x : α × List Str}, i < qs.length → (qs ++ [(e.2, c.2 ++ [e.1])])[i]? = some x → qs[i]? = some x := fun hi hx => by rwa [List.getElem?_append_left hi] at hx
  have hc' : ∀ x, (qs ++ [(e.2, c.2 ++ [e.1])])[at_]? = some x → x = c := fun x hx => by
    have := old hlt hx
    rw [hc] at this
    exact (Option.some.inj this).symm
  refine ⟨?_, ?_, fun q hq => ?_, fun i j p q hij hp hq => ?_, fun x hx q hq => ?_, fun i x hi hx e' he' => ?_, fun x hx e' he' => ?_⟩
  · rw [List.map_append, List.nodup_append]
    exact ⟨b.nd, by simp, fun x hx y hy => by
      rw [List.map_cons, List.map_nil, List.mem_singleton] at hy
      rintro rfl
      rw [hy] at hx
      exact h hx⟩
  · rw [List.getElem?_append_left (Nat.lt_of_le_of_lt (Nat.zero_le _) hlt)]
    exact b.ini
  · rcases List.mem_append.mp hq with hq | hq
    · exact b.pt q hq
    · rw [List.mem_singleton.mp hq]
      exact .snoc (b.pt c (List.mem_of_getElem? hc)) he
  · have key : ∀ {k : Nat} {x : α × List Str}, (qs ++ [(e.2, c.2 ++ [e.1])])[k]? = some x → (k < qs.length ∧ qs[k]? = some x) ∨ (k = qs.length ∧ x = (e.2, c.2 ++ [e.1])) := fun {k x} hx => by
      by_cases hk : k < qs.length
      · exact .inl ⟨hk, old hk hx⟩
      · have hk2 := (List.getElem?_eq_some_iff.mp hx).1
        rw [List.length_append, List.length_singleton] at hk2
        have hk3 : k = qs.length := by omega
        subst hk3
        rw [List.getElem?_append_right (Nat.le_refl _), Nat.sub_self] at hx
        exact .inr ⟨rfl, (Option.some.inj hx).symm⟩
    rcases key hp with ⟨h1, hp⟩ | ⟨h1, rfl⟩ <;> rcases key hq with ⟨h2, hq⟩ | ⟨h2, rfl⟩
    · exact b.mono i j p q hij hp hq
    · have := b.lev c hc p (List.mem_of_getElem? hp)
      rw [List.length_append, List.length_singleton]
      exact this
    · omega
    · exact Nat.le_refl _
  · rw [hc' x hx]
    rcases List.mem_append.mp hq with hq | hq
    · exact b.lev c hc q hq
    · rw [List.mem_singleton.mp hq, List.length_append]
      exact Nat.le_refl _
  · obtain ⟨q, hq, r⟩ := b.cl i x hi (old (by omega) hx) e' he'
    exact ⟨q, List.mem_append_left _ hq, r⟩
  · rw [hc' x hx]
    rcases List.mem_append.mp he' with he' | he'
    · obtain ⟨q, hq, r⟩ := b.cE c hc e' he'
      exact ⟨q, List.mem_append_left _ hq, r⟩
    · rw [List.mem_singleton.mp he']
      exact ⟨_, List.mem_append_right _ (List.mem_singleton.mpr rfl), rfl, by rw [List.length_append]; exact Nat.le_refl _⟩
/-- all edges of a thing are done -/
theorem BIn.next (b : BIn sc s at_ E qs) (hE : ∀ c, qs[at_]? = some c → ∀ e ∈ sc c.1, e ∈ E) (hlt : at_ < qs.length) : BIn sc s (at_ + 1) [] qs := by
  obtain ⟨c0, hc0⟩ : ∃ c, qs[at_]? = some c := ⟨_, List.getElem?_eq_getElem hlt⟩
  refine { b with lev := fun c hc q hq => ?_, cl := fun i c hi hc e he => ?_, cE := fun c _ e he => nomatch he }
  · have h1 := b.lev c0 hc0 q hq
    have h2 := b.mono at_ (at_ + 1) c0 c (Nat.le_succ _) hc0 hc
    omega
  · rcases Nat.lt_or_ge i at_ with h | h
    · exact b.cl i c h hc e he
    · have : i = at_ := by omega
      subst this
      exact b.cE c hc e (hE c hc e he)
/-- the first thing met of a kind is met by a shortest way -/
theorem BIn.least (b : BIn sc s at_ [] qs) {G : α → Prop} (no : ∀ (i : Nat) (q : α × List Str), i < at_ → qs[i]? = some q → ¬ G q.1) {c : α × List Str} (hc : qs[at_]? = some c) {ls : List Str} {v : α} (hp : Pt sc s ls v) (hg : G v) : c.2.length ≤ ls.length := by
  refine Nat.le_of_not_lt fun lt => ?_
  have key : ∀ (ls : List Str) (v : α), Pt sc s ls v → ls.length < c.2.length → ∃ (i : Nat) (q : α × List Str), i < at_ ∧ qs[i]? = some q ∧ q.1 = v ∧ q.2.length ≤ ls.length := by
    intro ls v hp
    induction hp with
    | nil =>
      intro h
      refine ⟨0, (s, []), Nat.pos_of_ne_zero fun z => ?_, b.ini, rfl, Nat.le_refl _⟩
      subst z
      rw [b.ini] at hc
      cases hc
      exact Nat.lt_irrefl _ h
    | @snoc ls x e _ he ih =>
      intro h
      rw [List.length_append, List.length_singleton] at h ⊢
      obtain ⟨i, q, hi, hq, e1, e2⟩ := ih (by omega)
      obtain ⟨q', hq', e3, e4⟩ := b.cl i q hi hq e (e1 ▸ he)
      obtain ⟨j, hj⟩ := List.getElem?_of_mem hq'
      refine ⟨j, q', Nat.lt_of_not_le fun z => ?_, hj, e3, by omega⟩
      have := b.mono at_ j c q' z hc hj
      omega
  obtain ⟨i, q, hi, hq, e1, _⟩ := key ls v hp lt
  exact no i q hi hq (e1 ▸ hg)
/-- when all is done, all that can be met was met -/
theorem BIn.all (b : BIn sc s at_ [] qs) (h : qs.length ≤ at_) {ls : List Str} {v : α} (hp : Pt sc s ls v) : v ∈ qs.map (·.1) := by
  induction hp with
  | nil => exact List.mem_map.mpr ⟨_, List.mem_of_getElem? b.ini, rfl⟩
  | @snoc ls x e _ he ih =>
    obtain ⟨q, hq, rfl⟩ := List.mem_map.mp ih
    obtain ⟨i, hi⟩ := List.getElem?_of_mem hq
    have := (List.getElem?_eq_some_iff.mp hi).1
    obtain ⟨q', hq', e3, _⟩ := b.cl i q (by omega) hi e he
    exact List.mem_map.mpr ⟨q', hq', e3⟩
/-- things met out of a row: no more than it has -/
theorem BIn.few (b : BIn sc s at_ E qs) {N : List α} (h0 : s ∈ N) (hN : ∀ x ∈ N, ∀ e ∈ sc x, e.2 ∈ N) : qs.length ≤ N.length := by
  have := nd_sub (ys := N) b.nd fun x hx => by
    obtain ⟨q, hq, rfl⟩ := List.mem_map.mp hx
    have := b.pt q hq
    generalize q.1 = v at this
    generalize q.2 = ls at this
    induction this with
    | nil => exact h0
    | snoc _ he ih => exact hN _ ih _ he
  rwa [List.length_map] at this
end

/-! ### what is begun -/
def begM (m : Mc) (ps : List Nat) (x : Str) : List Nat := ((List.range m.at_.length).filter fun a => decide (a ∈ m.fi) || behM m ps a).filter fun a => tkM m a x
/-- the atoms by which the lane gone last is read -/
def stM (m : Mc) (ls : List Str) : List Nat := ls.foldl (begM m) []
end DL

/-! FM: dicts with nested keys: walked, copied (one entry), set beside the empty one (own work). -/
namespace DL
open PySem L2 PySem.W PyProof.Rows

section
variable {X : Cx} {pins : List (Addr × Obj)} {σ : L2.St} {H : Hp} {s : Shared} {d : Addr} {o : Obj} {xs : List (NestedKey × Addr × V)}
end
section
variable {X : Cx} {o i e tg : Expr} {pos pos' : Pos} {td ty tv tk : TE}
end

section
variable {K : PySem.W.Frag} {B F F0 : Hp} {ro : Ro} {ka k1 k2 k3 kr : Cells} {ta : List (V × W)} {sg : L2.St} {H H' : Hp} {te tf tg tk tv : TE} {tt : TT} {w x y : W} {n : Nd} {a : Addr} {b : Bool} {De : Ends} {u : TS} {wi : TI} {ws : List W}
end

/-! ### by data -/
section
variable {K : PySem.W.Frag} {B F F0 : Hp} {ro : Ro} {ka k1 k2 k3 kr : Cells} {ta : List (V × W)} {sg : L2.St} {H H' : Hp} {te tf tg tk tv : TE} {tt : TT} {w x y z : W} {a : Addr} {b : Bool} {wd : World} {ds : List (NestedKey × D)}
end
end DL

/-! FN: searches by levels of one distance; a machine told by a law (own work). -/
namespace DL
open PySem L2 PySem.W
section
variable {α : Type} [DecidableEq α] {sc : α → List (Str × α)} {s : α} {n : Nat} {L Kn N : List α} {G : α → Prop}
theorem pt_in (h0 : s ∈ N) (hN : ∀ x ∈ N, ∀ e ∈ sc x, e.2 ∈ N) {ls : List Str} {x : α} (h : Pt sc s ls x) : x ∈ N := by
  induction h with
  | nil => exact h0
  | snoc _ he ih => exact hN _ ih _ he
theorem pt_last {ls : List Str} {y : α} (h : Pt sc s ls y) : (ls = [] ∧ y = s) ∨ ∃ us x e, Pt sc s us x ∧ e ∈ sc x ∧ e.2 = y ∧ ls = us ++ [e.1] := by
  cases h with
  | nil => exact .inl ⟨rfl, rfl⟩
  | snoc h he => exact .inr ⟨_, _, _, h, he, rfl, rfl⟩
/-- L is what is met behind n steps and not earlier, Kn what is met behind n steps or earlier -/
structure LvI (sc : α → List (Str × α)) (s : α) (n : Nat) (L Kn : List α) : Prop where
  nd : Kn.Nodup
  sub : ∀ x ∈ L, x ∈ Kn
  ndL : L.Nodup
  pt : ∀ x ∈ L, ∃ ls, ls.length = n ∧ Pt sc s ls x
  rc : ∀ x ∈ Kn, ∃ ls, Pt sc s ls x
  kn : ∀ ls x, Pt sc s ls x → ls.length ≤ n → x ∈ Kn
  lv : ∀ x ∈ Kn, x ∈ L ∨ ∃ ls, ls.length < n ∧ Pt sc s ls x
theorem LvI.start (sc : α → List (Str × α)) (s : α) : LvI sc s 0 [s] [s] where
  nd := List.nodup_cons.mpr ⟨List.not_mem_nil, List.nodup_nil⟩
  ndL := List.nodup_cons.mpr ⟨List.not_mem_nil, List.nodup_nil⟩
  sub := fun _ h => h
  pt := fun x h => ⟨[], rfl, by rw [List.mem_singleton.mp h]; exact .nil⟩
  rc := fun x h => ⟨[], by rw [List.mem_singleton.mp h]; exact .nil⟩
  kn := fun ls x h hl => by
    rcases pt_last h with ⟨_, e⟩ | ⟨us, y, e, _, _, _, e2⟩
    · exact List.mem_singleton.mpr e
    · rw [e2, List.length_append, List.length_singleton] at hl
      omega
  lv := fun x h => .inl h
theorem LvI.next (h : LvI sc s n L Kn) {F : List α} (hF : ∀ y, y ∈ F ↔ ∃ x ∈ L, ∃ e ∈ sc x, e.2 = y) (nF : F.Nodup) {p : α → Bool} (hp : ∀ y, p y = true ↔ y ∉ Kn) : LvI sc s (n + 1) (F.filter p) (Kn ++ F.filter p) := by
  have new : ∀ x, x ∈ F.filter p ↔ x ∈ F ∧ x ∉ Kn := fun x => by rw [List.mem_filter, hp]
  have step : ∀ y ∈ F, ∃ ls, ls.length = n + 1 ∧ Pt sc s ls y := fun y hy => by
    obtain ⟨x, hx, e, he, rfl⟩ := (hF y).mp hy
    obtain ⟨ls, hl, hp⟩ := h.pt x hx
    exact ⟨ls ++ [e.1], by rw [List.length_append, hl]; rfl, hp.snoc he⟩
  refine ⟨?_, fun x hx => List.mem_append_right _ hx, nF.filter _, fun x hx => step x ((new x).mp hx).1, fun x hx => ?_, fun ls x hp hl => ?_, fun x hx => ?_⟩
  · rw [List.nodup_append]
    exact ⟨h.nd, nF.filter _, fun x hx y hy e => ((new y).mp hy).2 (e ▸ hx)⟩
  · rcases List.mem_append.mp hx with hx | hx
    · exact h.rc x hx
    · obtain ⟨ls, _, hp⟩ := step x ((new x).mp hx).1
      exact ⟨ls, hp⟩
  · by_cases hx : x ∈ Kn
    · exact List.mem_append_left _ hx
    · refine List.mem_append_right _ ((new x).mpr ⟨?_, hx⟩)
      rcases pt_last hp with ⟨e1, e2⟩ | ⟨us, y, e, hy, he, e2, e3⟩
      · exact absurd (h.kn [] x (by rw [e2]; exact .nil) (Nat.zero_le _)) hx
      · rw [e3, List.length_append, List.length_singleton] at hl
        rcases h.lv y (h.kn us y hy (by omega)) with hL | ⟨vs, hv, hy2⟩
        · exact (hF x).mpr ⟨y, hL, e, he, e2⟩
        · exact absurd (h.kn (vs ++ [e.1]) x (e2 ▸ hy2.snoc he) (by rw [List.length_append, List.length_singleton]; omega)) hx
  · rcases List.mem_append.mp hx with hx | hx
    · rcases h.lv x hx with hL | ⟨ls, hl, hp⟩
      · obtain ⟨ls, hl, hp⟩ := h.pt x hL
        exact .inr ⟨ls, by omega, hp⟩
      · exact .inr ⟨ls, by omega, hp⟩
    · exact .inl hx
theorem LvI.short (h : LvI sc s n [] Kn) : ∀ ls x, Pt sc s ls x → ∃ us, us.length < n ∧ Pt sc s us x := by
  intro ls x hp
  induction hp with
  | nil =>
    rcases h.lv s (h.kn [] s .nil (Nat.zero_le _)) with hL | hL
    · cases hL
    · exact hL
  | @snoc ls x e _ he ih =>
    obtain ⟨us, hu, hp⟩ := ih
    rcases h.lv e.2 (h.kn _ _ (hp.snoc he) (by rw [List.length_append, List.length_singleton]; omega)) with hL | hL
    · cases hL
    · exact hL
theorem LvI.over (h : LvI sc s n [] Kn) (no : ∀ ls x, Pt sc s ls x → ls.length < n → ¬ G x) : ∀ ls x, Pt sc s ls x → ¬ G x := fun ls x hp => by
  obtain ⟨us, hu, hp2⟩ := h.short ls x hp
  exact no us x hp2 hu
theorem LvI.few (h : LvI sc s n L Kn) (h0 : s ∈ N) (hN : ∀ x ∈ N, ∀ e ∈ sc x, e.2 ∈ N) : Kn.length ≤ N.length := nd_sub h.nd fun x hx => by
  obtain ⟨ls, hp⟩ := h.rc x hx
  exact pt_in h0 hN hp
end
/-! ### a machine as a law makes it -/
/-- the same machine, its parts in another order -/
structure McE (m n : Mc) : Prop where
  at_ : m.at_ = n.at_
  fi : ∀ a, a ∈ m.fi ↔ a ∈ n.fi
  la : ∀ a, a ∈ m.la ↔ a ∈ n.la
  pr : ∀ p, p ∈ m.pr ↔ p ∈ n.pr
  op : m.op = n.op
section
variable {m n : Mc}
theorem McE.tk (e : McE m n) (a : Nat) (x : Str) : tkM m a x = tkM n a x := by
  unfold tkM
  rw [e.at_]
theorem McE.beh (e : McE m n) (ps : List Nat) (a : Nat) : behM m ps a = behM n ps a := by
  unfold behM
  simp only [e.pr]
theorem McE.beg (e : McE m n) (ps : List Nat) (x : Str) : begM m ps x = begM n ps x := by
  unfold begM
  simp only [e.tk, e.beh, e.fi, e.at_]
theorem McE.done (e : McE m n) (ps : List Nat) : doneM m ps = doneM n ps := by
  unfold doneM
  simp only [e.la]
theorem McE.st (e : McE m n) (ls : List Str) : stM m ls = stM n ls := by
  unfold stM
  rw [show begM m = begM n from funext fun ps => funext fun x => e.beg ps x]
theorem McE.refl : McE m m := ⟨rfl, fun _ => Iff.rfl, fun _ => Iff.rfl, fun _ => Iff.rfl, rfl⟩
end
end DL

/-! FO: shortest words that part two machines, searched by levels, in plain Lean (own work). -/
namespace DL
open PySem L2 PySem.W

/-! ### sub-rows again -/
theorem subs_iff {α : Type} {xs ys : List α} : ys ∈ subs xs ↔ ys.Sublist xs := by
  induction xs generalizing ys with
  | nil => rw [subs, List.mem_singleton, List.sublist_nil]
  | cons x xs ih =>
    rw [subs, List.mem_append, List.mem_map]
    constructor
    · rintro (h | ⟨zs, h, rfl⟩)
      · exact (ih.mp h).cons _
      · exact (ih.mp h).cons_cons _
    · intro h
      cases h with
      | cons _ h => exact .inl (ih.mpr h)
      | cons_cons _ h => exact .inr ⟨_, ih.mpr h, rfl⟩
theorem mc_fi_sub : ∀ (t : Tr) (s : Nat), (mcT t s).fi.Sublist (List.range' s (mcT t s).at_.length)
  | .at k ns, s => List.Sublist.refl _
  | .rep a, s => mc_fi_sub a s
  | .opt a, s => mc_fi_sub a s
  | .either a b, s => by
    show ((mcT a s).fi ++ (mcT b (s + (mcT a s).at_.length)).fi).Sublist (List.range' s ((mcT a s).at_ ++ (mcT b (s + (mcT a s).at_.length)).at_).length)
    rw [List.length_append, ← List.range'_append_1]
    exact (mc_fi_sub a s).append (mc_fi_sub b _)
  | .join a b, s => by
    show (if (mcT a s).op then (mcT a s).fi ++ (mcT b (s + (mcT a s).at_.length)).fi else (mcT a s).fi).Sublist (List.range' s ((mcT a s).at_ ++ (mcT b (s + (mcT a s).at_.length)).at_).length)
    rw [List.length_append, ← List.range'_append_1]
    split
    · exact (mc_fi_sub a s).append (mc_fi_sub b _)
    · exact (mc_fi_sub a s).trans (List.sublist_append_left _ _)
theorem start_sub (t : Tr) (x : Str) : startM (mcT t 0) x ∈ subs (List.range (mcT t 0).at_.length) := by
  rw [subs_iff, List.range_eq_range']
  exact (List.filter_sublist).trans (mc_fi_sub t 0)
theorem after_sub (m : Mc) (ps : List Nat) (x : Str) : afterM m ps x ∈ subs (List.range m.at_.length) := flt_subs _ _

/-! ### words and what two machines make of them -/
abbrev P2 := List Nat × List Nat
def st2 (m n : Mc) (w : List Str) : P2 := (runM m w, runM n w)
def nx2 (m n : Mc) (p : P2) (x : Str) : P2 := (afterM m p.1 x, afterM n p.2 x)
theorem st2_snoc {m n : Mc} {w : List Str} {x : Str} (h : w ≠ []) : st2 m n (w ++ [x]) = nx2 m n (st2 m n w) x := by
  unfold st2 nx2
  rw [run_snoc h, run_snoc h]
/-- all pairs there can be -/
def p2All (m n : Mc) : List P2 := (subs (List.range m.at_.length)).flatMap fun a => (subs (List.range n.at_.length)).map fun b => (a, b)
theorem p2All_len (m n : Mc) : (p2All m n).length = 2 ^ m.at_.length * 2 ^ n.at_.length := by
  have key : ∀ (xs : List (List Nat)), (xs.flatMap fun a => (subs (List.range n.at_.length)).map fun b => (a, b)).length = xs.length * 2 ^ n.at_.length := fun xs => by
    induction xs with
    | nil => simp
    | cons x xs ih => rw [List.flatMap_cons, List.length_append, ih, List.length_map, subs_len, List.length_range, List.length_cons, Nat.add_mul, Nat.one_mul, Nat.add_comm]
  unfold p2All
  rw [key, subs_len, List.length_range]
theorem p2All_mem {m n : Mc} {p : P2} (h1 : p.1 ∈ subs (List.range m.at_.length)) (h2 : p.2 ∈ subs (List.range n.at_.length)) : p ∈ p2All m n :=
  List.mem_flatMap.mpr ⟨p.1, h1, List.mem_map.mpr ⟨p.2, h2, rfl⟩⟩
theorem st2_all (t u : Tr) {w : List Str} (h : w ≠ []) : st2 (mcT t 0) (mcT u 0) w ∈ p2All (mcT t 0) (mcT u 0) := by
  have key : ∀ (t : Tr) (w : List Str), w ≠ [] → runM (mcT t 0) w ∈ subs (List.range (mcT t 0).at_.length) := fun t w h => by
    obtain ⟨ys, y, rfl⟩ : ∃ ys y, w = ys ++ [y] := ⟨w.dropLast, w.getLast h, (List.dropLast_concat_getLast h).symm⟩
    by_cases e : ys = []
    · subst e
      exact start_sub t y
    · rw [run_snoc e]
      exact after_sub _ _ _
  exact p2All_mem (key t w h) (key u w h)

/-! ### the search -/
/-- words told so far; the first `at_` are done; ks: the pairs that were met -/
structure WIn (m n : Mc) (N : List Str) (at_ : Nat) (ks : List P2) (qs : List (List Str)) : Prop where
  ini : ∀ x ∈ N, [x] ∈ qs
  ne : ∀ q ∈ qs, q ≠ []
  mono : ∀ (i j : Nat) (p q : List Str), i ≤ j → qs[i]? = some p → qs[j]? = some q → p.length ≤ q.length
  lev : ∀ c, qs[at_]? = some c → ∀ q ∈ qs, q.length ≤ c.length + 1
  old : ∀ k ∈ ks, ∃ (j : Nat) (q : List Str), j < at_ ∧ qs[j]? = some q ∧ st2 m n q = k ∧ ∀ x ∈ N, q ++ [x] ∈ qs
  kn : ∀ (i : Nat) (c : List Str), i < at_ → qs[i]? = some c → st2 m n c ∈ ks
  cl : ∀ (i : Nat) (c : List Str), i < at_ → qs[i]? = some c → ∃ (j : Nat) (q : List Str), j ≤ i ∧ qs[j]? = some q ∧ st2 m n q = st2 m n c ∧ ∀ x ∈ N, q ++ [x] ∈ qs
  nd : ks.Nodup
  len : qs.length = N.length * (ks.length + 1)
  ll : ∀ q ∈ qs, q.length ≤ ks.length + 1
  lt : ∀ q ∈ qs, ∀ x ∈ q, x ∈ N
section
variable {m n : Mc} {N : List Str} {at_ : Nat} {ks : List P2} {qs : List (List Str)}
theorem WIn.start (m n : Mc) (N : List Str) : WIn m n N 0 [] (N.map fun x => [x]) where
  ini := fun x hx => List.mem_map.mpr ⟨x, hx, rfl⟩
  ne := fun q hq => by
    obtain ⟨x, _, rfl⟩ := List.mem_map.mp hq
    exact List.cons_ne_nil _ _
  mono := fun i j p q _ hp hq => by
    obtain ⟨x, _, rfl⟩ := List.mem_map.mp (List.mem_of_getElem? hp)
    obtain ⟨y, _, rfl⟩ := List.mem_map.mp (List.mem_of_getElem? hq)
    exact Nat.le_refl _
  lev := fun c _ q hq => by
    obtain ⟨x, _, rfl⟩ := List.mem_map.mp hq
    exact Nat.succ_le_succ (Nat.zero_le _)
  old := fun k hk => nomatch hk
  kn := fun i c h => absurd h (Nat.not_lt_zero _)
  cl := fun i c h => absurd h (Nat.not_lt_zero _)
  nd := List.nodup_nil
  len := by rw [List.length_map]; exact (Nat.mul_one _).symm
  ll := fun q hq => by
    obtain ⟨x, _, rfl⟩ := List.mem_map.mp hq
    exact Nat.le_refl _
  lt := fun q hq y hy => by
    obtain ⟨x, hx, rfl⟩ := List.mem_map.mp hq
    rw [List.mem_singleton.mp hy]
    exact hx
/-- a pair that was met -/
theorem WIn.again (b : WIn m n N at_ ks qs) {c : List Str} (hc : qs[at_]? = some c) (h : st2 m n c ∈ ks) : WIn m n N (at_ + 1) ks qs := { b with
  lev := fun d hd q hq => by
    have h1 := b.lev c hc q hq
    have h2 := b.mono at_ (at_ + 1) c d (Nat.le_succ _) hc hd
    omega
  old := fun k hk => by
    obtain ⟨j, q, h1, r⟩ := b.old k hk
    exact ⟨j, q, Nat.lt_succ_of_lt h1, r⟩
  kn := fun i d hi hd => by
    rcases Nat.lt_or_ge i at_ with g | g
    · exact b.kn i d g hd
    · have : i = at_ := by omega
      subst this
      rw [hc] at hd
      cases hd
      exact h
  cl := fun i d hi hd => by
    rcases Nat.lt_or_ge i at_ with g | g
    · exact b.cl i d g hd
    · have : i = at_ := by omega
      subst this
      rw [hc] at hd
      cases hd
      obtain ⟨j, q, h1, h2, h3, h4⟩ := b.old _ h
      exact ⟨j, q, Nat.le_of_lt h1, h2, h3, h4⟩ }
/-- a new pair -/
theorem WIn.new (b : WIn m n N at_ ks qs) {c : List Str} (hc : qs[at_]? = some c) (h : st2 m n c ∉ ks) : WIn m n N (at_ + 1) (ks ++ [st2 m n c]) (qs ++ N.map fun x => c ++ [x]) := by
  have hlt : at_ < qs.length := (List.getElem?_eq_some_iff.mp hc).1
  have up : ∀ {i : Nat} {x : List Str}, qs[i]? = some x → (qs ++ N.map fun x => c ++ [x])[i]? = some x := fun {i x} hx => by rwa [List.getElem?_append_left (List.getElem?_eq_some_iff.mp hx).1]
  have key : ∀ {k : Nat} {x : List Str}, (qs ++ N.map fun x => c ++ [x])[k]? = some x → (k < qs.length ∧ qs[k]? = some x) ∨ (qs.length ≤ k ∧ x.length = c.length + 1) := fun {k x} hx => by
    by_cases hk : k < qs.length
    · rw [List.getElem?_append_left hk] at hx
      exact .inl ⟨hk, hx⟩
    · rw [List.getElem?_append_right (Nat.le_of_not_lt hk)] at hx
      obtain ⟨y, _, rfl⟩ := List.mem_map.mp (List.mem_of_getElem? hx)
      exact .inr ⟨Nat.le_of_not_lt hk, by rw [List.length_append]; rfl⟩
  have low : ∀ {i : Nat} {x : List Str}, i < at_ + 1 → (qs ++ N.map fun x => c ++ [x])[i]? = some x → qs[i]? = some x := fun {i x} hi hx => by
    rcases key hx with ⟨_, h⟩ | ⟨h, _⟩
    · exact h
    · omega
  have le1 : ∀ {q : List Str}, q ∈ qs ++ N.map (fun x => c ++ [x]) → q.length ≤ c.length + 1 := fun {q} hq => by
    rcases List.mem_append.mp hq with hq | hq
    · exact b.lev c hc q hq
    · obtain ⟨y, _, rfl⟩ := List.mem_map.mp hq
      rw [List.length_append]
      exact Nat.le_refl _
  have own : ∀ x ∈ N, c ++ [x] ∈ qs ++ N.map (fun x => c ++ [x]) := fun x hx => List.mem_append_right _ (List.mem_map.mpr ⟨x, hx, rfl⟩)
  refine ⟨fun x hx => List.mem_append_left _ (b.ini x hx), fun q hq => ?_, fun i j p q hij hp hq => ?_, fun d hd q hq => ?_, fun k hk => ?_, fun i d hi hd => ?_, fun i d hi hd => ?_, ?_, ?_, fun q hq => ?_, fun q hq z hz => ?_⟩
  · rcases List.mem_append.mp hq with hq | hq
    · exact b.ne q hq
    · obtain ⟨y, _, rfl⟩ := List.mem_map.mp hq
      simp
  · rcases key hp with ⟨h1, hp⟩ | ⟨h1, e1⟩ <;> rcases key hq with ⟨h2, hq⟩ | ⟨h2, e2⟩
    · exact b.mono i j p q hij hp hq
    · rw [e2]
      exact b.lev c hc p (List.mem_of_getElem? hp)
    · omega
    · omega
  · have h1 := le1 hq
    have h2 : c.length ≤ d.length := by
      rcases key hd with ⟨_, hd⟩ | ⟨_, e⟩
      · exact b.mono at_ (at_ + 1) c d (Nat.le_succ _) hc hd
      · omega
    omega
  · rcases List.mem_append.mp hk with hk | hk
    · obtain ⟨j, q, h1, h2, h3, h4⟩ := b.old k hk
      exact ⟨j, q, Nat.lt_succ_of_lt h1, up h2, h3, fun x hx => List.mem_append_left _ (h4 x hx)⟩
    · rw [List.mem_singleton.mp hk]
      exact ⟨at_, c, Nat.lt_succ_self _, up hc, rfl, own⟩
  · have hd' := low hi hd
    rcases Nat.lt_or_ge i at_ with g | g
    · exact List.mem_append_left _ (b.kn i d g hd')
    · have : i = at_ := by omega
      subst this
      rw [hc] at hd'
      cases hd'
      exact List.mem_append_right _ (List.mem_singleton.mpr rfl)
  · have hd' := low hi hd
    rcases Nat.lt_or_ge i at_ with g | g
    · obtain ⟨j, q, h1, h2, h3, h4⟩ := b.cl i d g hd'
      exact ⟨j, q, h1, up h2, h3, fun x hx => List.mem_append_left _ (h4 x hx)⟩
    · have : i = at_ := by omega
      subst this
      rw [hc] at hd'
      cases hd'
      exact ⟨i, c, Nat.le_refl _, up hc, rfl, own⟩
  · rw [List.nodup_append]
    exact ⟨b.nd, by simp, fun x hx y hy => by
      rintro rfl
      rw [List.mem_singleton.mp hy] at hx
      exact h hx⟩
  · rw [List.length_append, List.length_map, b.len, List.length_append, List.length_singleton, Nat.mul_succ N.length (ks.length + 1)]
  · rw [List.length_append, List.length_singleton]
    rcases List.mem_append.mp hq with hq | hq
    · exact Nat.le_succ_of_le (b.ll q hq)
    · obtain ⟨y, _, rfl⟩ := List.mem_map.mp hq
      rw [List.length_append]
      exact Nat.succ_le_succ (b.ll c (List.mem_of_getElem? hc))
  · rcases List.mem_append.mp hq with hq | hq
    · exact b.lt q hq z hz
    · obtain ⟨y, hy, rfl⟩ := List.mem_map.mp hq
      rcases List.mem_append.mp hz with hz | hz
      · exact b.lt c (List.mem_of_getElem? hc) z hz
      · rw [List.mem_singleton.mp hz]
        exact hy
/-- every word is met, or one no longer is still to come -/
theorem WIn.met (b : WIn m n N at_ ks qs) {w : List Str} (hne : w ≠ []) (hN : ∀ x ∈ w, x ∈ N) : ∃ (i : Nat) (q : List Str), qs[i]? = some q ∧ q.length ≤ w.length ∧ ((i < at_ ∧ st2 m n q = st2 m n w) ∨ at_ ≤ i) := by
  induction w using list_snoc_ind with
  | nil => exact absurd rfl hne
  | snoc w x ih =>
    have hx := hN x (List.mem_append_right _ (List.mem_singleton.mpr rfl))
    have fin : ∀ q, q ∈ qs → q.length ≤ (w ++ [x]).length → st2 m n q = st2 m n (w ++ [x]) → ∃ (i : Nat) (q : List Str), qs[i]? = some q ∧ q.length ≤ (w ++ [x]).length ∧ ((i < at_ ∧ st2 m n q = st2 m n (w ++ [x])) ∨ at_ ≤ i) := fun q hq hl he => by
      obtain ⟨i, hi⟩ := List.getElem?_of_mem hq
      rcases Nat.lt_or_ge i at_ with g | g
      · exact ⟨i, q, hi, hl, .inl ⟨g, he⟩⟩
      · exact ⟨i, q, hi, hl, .inr g⟩
    by_cases e : w = []
    · subst e
      exact fin [x] (b.ini x hx) (Nat.le_refl _) rfl
    · obtain ⟨i, q, hq, hl, h | h⟩ := ih e fun y hy => hN y (List.mem_append_left _ hy)
      · obtain ⟨j, p, h1, h2, h3, h4⟩ := b.cl i q h.1 hq
        have hp := List.mem_of_getElem? h2
        have hpl := b.mono j i p q h1 h2 hq
        refine fin (p ++ [x]) (h4 x hx) ?_ ?_
        · rw [List.length_append, List.length_append, List.length_singleton]
          omega
        · rw [st2_snoc (b.ne p hp), st2_snoc e, h3, h.2]
      · exact ⟨i, q, hq, by rw [List.length_append]; omega, .inr h⟩
/-- the first pair of a kind is met by a shortest word -/
theorem WIn.least (b : WIn m n N at_ ks qs) {G : P2 → Prop} (no : ∀ k ∈ ks, ¬ G k) {c : List Str} (hc : qs[at_]? = some c) {w : List Str} (hne : w ≠ []) (hN : ∀ x ∈ w, x ∈ N) (hg : G (st2 m n w)) : c.length ≤ w.length := by
  obtain ⟨i, q, hq, hl, h | h⟩ := b.met hne hN
  · exact absurd hg (h.2 ▸ no _ (b.kn i q h.1 hq))
  · exact Nat.le_trans (b.mono at_ i c q h hc hq) hl
theorem WIn.none (b : WIn m n N at_ ks qs) {G : P2 → Prop} (no : ∀ k ∈ ks, ¬ G k) (h : qs.length ≤ at_) {w : List Str} (hne : w ≠ []) (hN : ∀ x ∈ w, x ∈ N) : ¬ G (st2 m n w) := fun hg => by
  obtain ⟨i, q, hq, hl, g | g⟩ := b.met hne hN
  · exact no _ (b.kn i q g.1 hq) (g.2 ▸ hg)
  · have := (List.getElem?_eq_some_iff.mp hq).1
    omega
end

/-! ### names that stand in no atom -/
def namM (m : Mc) : List Str := m.at_.flatMap fun p => p.2
theorem tk_strange {m : Mc} {a : Nat} {x y : Str} (hx : x ∉ namM m) (hy : y ∉ namM m) : tkM m a x = tkM m a y := by
  unfold tkM
  cases e : m.at_[a]? with
  | none => rfl
  | some p =>
    have hp := List.mem_of_getElem? e
    have h1 : x ∉ p.2 := fun z => hx (List.mem_flatMap.mpr ⟨p, hp, z⟩)
    have h2 : y ∉ p.2 := fun z => hy (List.mem_flatMap.mpr ⟨p, hp, z⟩)
    show (decide (x ∈ p.2) == p.1) = (decide (y ∈ p.2) == p.1)
    rw [decide_eq_false h1, decide_eq_false h2]
/-- a strange name in the place of each strange name -/
def rnW (N : List Str) (f : Str) (w : List Str) : List Str := w.map fun x => if x ∈ N then x else f
theorem run_rn {m : Mc} {N : List Str} {f : Str} (h1 : ∀ x ∈ namM m, x ∈ N) (h2 : f ∉ namM m) (w : List Str) : runM m (rnW N f w) = runM m w := by
  have t : ∀ a x, tkM m a (if x ∈ N then x else f) = tkM m a x := fun a x => by
    split
    · rfl
    · rename_i h
      exact tk_strange h2 fun z => h (h1 x z)
  have af : ∀ ps x, afterM m ps (if x ∈ N then x else f) = afterM m ps x := fun ps x => List.filter_congr fun a _ => by rw [t]
  have fold : ∀ (r : List Str) (ps : List Nat), (r.map fun x => if x ∈ N then x else f).foldl (afterM m) ps = r.foldl (afterM m) ps := fun r => by
    induction r with
    | nil => exact fun _ => rfl
    | cons x r ih => exact fun ps => by rw [List.map_cons, List.foldl_cons, List.foldl_cons, af, ih]
  cases w with
  | nil => rfl
  | cons x r =>
    show (r.map _).foldl _ (startM m (if x ∈ N then x else f)) = r.foldl _ (startM m x)
    rw [fold]
    congr 1
    exact List.filter_congr fun a _ => t a x
theorem rn_mem {N : List Str} {f : Str} (hf : f ∈ N) (w : List Str) : ∀ x ∈ rnW N f w, x ∈ N := fun x hx => by
  obtain ⟨y, _, rfl⟩ := List.mem_map.mp hx
  split
  · assumption
  · exact hf

/-! ### what is told -/
/-- a word of the one that is none of the other, or (both sides) the other way round -/
def dfW (t u : Tr) (one : Bool) (w : List Str) : Prop := (Lg t w ∧ ¬ Lg u w) ∨ (one = false ∧ Lg u w ∧ ¬ Lg t w)
def dfB (a b one : Bool) : Bool := a != b && (a || !one)
theorem df_acc {t u : Tr} {one : Bool} {w : List Str} : dfW t u one w ↔ dfB (accM (mcT t 0) w) (accM (mcT u 0) w) one = true := by
  unfold dfW dfB
  rw [← acc_iff, ← acc_iff]
  cases accM (mcT t 0) w <;> cases accM (mcT u 0) w <;> cases one <;> simp
/-- a shortest word that parts, or none if there is none -/
def PaR (t u : Tr) (one : Bool) : Option (List Str) → Prop
  | some w => dfW t u one w ∧ ∀ w', dfW t u one w' → w.length ≤ w'.length
  | none => ∀ w', ¬ dfW t u one w'
def doneP (m n : Mc) (one : Bool) (p : P2) : Bool := dfB (doneM m p.1) (doneM n p.2) one
theorem df_st {t u : Tr} {one : Bool} {w : List Str} (h : w ≠ []) : dfW t u one w ↔ doneP (mcT t 0) (mcT u 0) one (st2 (mcT t 0) (mcT u 0) w) = true := by
  rw [df_acc]
  unfold accM
  rw [if_neg h, if_neg h]
  exact Iff.rfl
section
variable {t u : Tr} {one : Bool} {N : List Str} {f : Str} {at_ : Nat} {ks : List P2} {qs : List (List Str)}
theorem pa_empty (h : dfB (mcT t 0).op (mcT u 0).op one = true) : PaR t u one (some []) := ⟨df_acc.mpr h, fun _ _ => Nat.zero_le _⟩
theorem pa_found (b : WIn (mcT t 0) (mcT u 0) N at_ ks qs) (h0 : dfB (mcT t 0).op (mcT u 0).op one = false) (h1 : ∀ x ∈ namM (mcT t 0) ++ namM (mcT u 0), x ∈ N) (hf : f ∈ N) (h2 : f ∉ namM (mcT t 0) ++ namM (mcT u 0))
    (no : ∀ k ∈ ks, ¬ doneP (mcT t 0) (mcT u 0) one k = true) {c : List Str} (hc : qs[at_]? = some c) (hd : doneP (mcT t 0) (mcT u 0) one (st2 (mcT t 0) (mcT u 0) c) = true) : PaR t u one (some c) := by
  have hne := b.ne c (List.mem_of_getElem? hc)
  refine ⟨(df_st hne).mpr hd, fun w hw => ?_⟩
  by_cases e : w = []
  · subst e
    have := df_acc.mp hw
    rw [show dfB (accM (mcT t 0) []) (accM (mcT u 0) []) one = dfB (mcT t 0).op (mcT u 0).op one from rfl, h0] at this
    cases this
  · have e2 : rnW N f w ≠ [] := fun z => e (List.map_eq_nil_iff.mp z)
    have := b.least no hc e2 (rn_mem hf w) (G := fun k => doneP (mcT t 0) (mcT u 0) one k = true) (by
      have h3 : st2 (mcT t 0) (mcT u 0) (rnW N f w) = st2 (mcT t 0) (mcT u 0) w := by
        unfold st2
        rw [run_rn (fun x hx => h1 x (List.mem_append_left _ hx)) (fun z => h2 (List.mem_append_left _ z)), run_rn (fun x hx => h1 x (List.mem_append_right _ hx)) (fun z => h2 (List.mem_append_right _ z))]
      rw [h3]
      exact (df_st e).mp hw)
    rwa [show (rnW N f w).length = w.length from List.length_map _] at this
theorem pa_none (b : WIn (mcT t 0) (mcT u 0) N at_ ks qs) (h0 : dfB (mcT t 0).op (mcT u 0).op one = false) (h1 : ∀ x ∈ namM (mcT t 0) ++ namM (mcT u 0), x ∈ N) (hf : f ∈ N) (h2 : f ∉ namM (mcT t 0) ++ namM (mcT u 0))
    (no : ∀ k ∈ ks, ¬ doneP (mcT t 0) (mcT u 0) one k = true) (hl : qs.length ≤ at_) : PaR t u one none := fun w hw => by
  by_cases e : w = []
  · subst e
    have := df_acc.mp hw
    rw [show dfB (accM (mcT t 0) []) (accM (mcT u 0) []) one = dfB (mcT t 0).op (mcT u 0).op one from rfl, h0] at this
    cases this
  · have e2 : rnW N f w ≠ [] := fun z => e (List.map_eq_nil_iff.mp z)
    refine b.none no hl e2 (rn_mem hf w) (G := fun k => doneP (mcT t 0) (mcT u 0) one k = true) ?_
    have h3 : st2 (mcT t 0) (mcT u 0) (rnW N f w) = st2 (mcT t 0) (mcT u 0) w := by
      unfold st2
      rw [run_rn (fun x hx => h1 x (List.mem_append_left _ hx)) (fun z => h2 (List.mem_append_left _ z)), run_rn (fun x hx => h1 x (List.mem_append_right _ hx)) (fun z => h2 (List.mem_append_right _ z))]
    rw [h3]
    exact (df_st e).mp hw
end

/-! ### all names -/
def anL (ps : List (Bool × List Str)) : List Str := ps.foldl (fun acc p => acc ++ p.2.filter fun x => !decide (x ∈ acc)) []
theorem an_fold : ∀ (ps : List (Bool × List Str)) (acc : List Str), (∀ x, x ∈ ps.foldl (fun acc p => acc ++ p.2.filter fun x => !decide (x ∈ acc)) acc ↔ x ∈ acc ∨ ∃ p ∈ ps, x ∈ p.2) ∧ (ps.foldl (fun acc p => acc ++ p.2.filter fun x => !decide (x ∈ acc)) acc).length ≤ acc.length + (ps.flatMap fun p => p.2).length
  | [], acc => ⟨fun x => by simp, Nat.le_refl _⟩
  | p :: ps, acc => by
    obtain ⟨h1, h2⟩ := an_fold ps (acc ++ p.2.filter fun x => !decide (x ∈ acc))
    rw [List.foldl_cons]
    refine ⟨fun x => ?_, ?_⟩
    · rw [h1, List.mem_append, List.mem_filter]
      constructor
      · rintro ((h | h) | ⟨q, hq, h⟩)
        · exact .inl h
        · exact .inr ⟨p, List.mem_cons_self, h.1⟩
        · exact .inr ⟨q, List.mem_cons_of_mem _ hq, h⟩
      · rintro (h | ⟨q, hq, h⟩)
        · exact .inl (.inl h)
        · rcases List.mem_cons.mp hq with rfl | hq
          · by_cases e : x ∈ acc
            · exact .inl (.inl e)
            · exact .inl (.inr ⟨h, by rw [decide_eq_false e]; rfl⟩)
          · exact .inr ⟨q, hq, h⟩
    · have := List.length_filter_le (fun x => !decide (x ∈ acc)) p.2
      rw [List.length_append] at h2
      rw [List.flatMap_cons, List.length_append]
      omega
theorem an_mem {ps : List (Bool × List Str)} {x : Str} : x ∈ anL ps ↔ ∃ p ∈ ps, x ∈ p.2 := by
  unfold anL
  rw [(an_fold ps []).1]
  simp
theorem an_len (ps : List (Bool × List Str)) : (anL ps).length ≤ (ps.flatMap fun p => p.2).length := by
  have := (an_fold ps []).2
  rwa [List.length_nil, Nat.zero_add] at this
theorem an_snoc (ps : List (Bool × List Str)) (p : Bool × List Str) : anL (ps ++ [p]) = anL ps ++ p.2.filter fun x => !decide (x ∈ anL ps) := by
  unfold anL
  rw [List.foldl_append]
  rfl

/-! ### pairs as keys -/
def p2K (p : P2) : NestedKey := .tup [nmK p.1, nmK p.2]
def p2D (p : P2) : D := .tup [.tup (nmD p.1), .tup (nmD p.2)]
theorem p2K_inj {p q : P2} (h : p2K p = p2K q) : p = q := by
  unfold p2K at h
  injection h with h
  injection h with h1 h
  injection h with h2 _
  exact Prod.ext (nm_inj h1) (nm_inj h2)
theorem p2K_D (p : P2) : nkD (p2K p) = p2D p := by
  unfold p2K p2D
  rw [nkD, nkDs, nkDs, nkDs, nkD_nm, nkD_nm]
theorem p2K_dep (p : P2) : (p2K p).depth ≤ 8 := by
  unfold p2K
  rw [NestedKey.depth, NestedKey.depthAll, NestedKey.depthAll, NestedKey.depthAll, dep_nm, dep_nm]
  decide
def ksD (ks : List P2) : List (NestedKey × D) := ks.map fun k => (p2K k, D.bl true)
theorem ksD_has {ks : List P2} {k : P2} : hasT (ksD ks) (p2K k) = decide (k ∈ ks) := by
  rw [Bool.eq_iff_iff, decide_eq_true_eq]
  unfold hasT ksD
  rw [List.any_eq_true]
  constructor
  · rintro ⟨p, hp, e⟩
    obtain ⟨q, hq, rfl⟩ := List.mem_map.mp hp
    rw [decide_eq_true_eq] at e
    rw [← p2K_inj e]
    exact hq
  · intro h
    exact ⟨_, List.mem_map.mpr ⟨k, h, rfl⟩, decide_eq_true rfl⟩
theorem ksD_put {ks : List P2} {k : P2} (h : k ∉ ks) : putT (ksD ks) (p2K k) (D.bl true) = ksD (ks ++ [k]) := by
  unfold putT
  rw [ksD_has, if_neg (by simpa using h)]
  unfold ksD
  rw [List.map_append]
  rfl

theorem isSome_has {κ α : Type} [DecidableEq κ] {kvs : List (κ × α)} {k : κ} : (getT kvs k).isSome = hasT kvs k := by
  unfold getT hasT
  rw [Option.isSome_map, Bool.eq_iff_iff, List.find?_isSome, List.any_eq_true]

/-! ### numbers as texts -/
def rStrI : List V → Hp → VK → Prop := fun xs H Q => ∃ i : Int, xs = [.int i] ∧ i.natAbs.log2 < 1920 ∧ Q (.str (toString i)) H
theorem call_strI {X : Cx} : CallR X (.type "str") rStrI := call_str_int
theorem ev_strI {K : PySem.W.Frag} {ro : Ro} {ka k1 : Cells} {te : TE} {i : Int} (h : EvD K te ro ka (.val (.int i)) k1) (hi : i.natAbs.log2 < 1920) : EvD K (tCB rStrI (tCons te tNil)) ro ka (.val (.str (toString i))) k1 := ev_cb (ea1 h) fun B F0 ro ta sg H us Q e hl hm q => by
  obtain ⟨u, rfl, hu⟩ := zip_one hl hm
  have := e.tm_int hu
  subst this
  exact ⟨i, rfl, hi, q _ _ (e.push_imm fun _ => rfl)⟩
def aNum (n : Nat) : Str := ("a" : Str) ++ (Str.ofString (toString ((n : Nat) : Int)))
theorem aNum_inj {i j : Nat} (hi : i < 1000000) (hj : j < 1000000) (h : aNum i = aNum j) : i = j := by
  have h2 := congrArg TL.tl h
  unfold aNum at h2
  rw [TL.tl_append, TL.tl_append] at h2
  have h3 : Str.ofString (toString ((i : Nat) : Int)) = Str.ofString (toString ((j : Nat) : Int)) := TL.ext_tl (List.append_cancel_left h2)
  have r1 := PySem.W.KIN.num_reads (n := (i : Int)) (by omega) (by omega)
  have r2 := PySem.W.KIN.num_reads (n := (j : Int)) (by omega) (by omega)
  rw [h3, r2] at r1
  have := Option.some.inj r1
  omega
theorem num_few {i : Nat} (hi : i < 1000000) : (Str.ofString (toString ((i : Nat) : Int))).length ≤ 6 := PyProof.Rows.toString_length_le (by omega) (by decide) (by omega)
theorem log_few {i : Nat} (hi : i < 1000000) : ((i : Nat) : Int).natAbs.log2 < 1920 := by
  have : ((i : Nat) : Int).natAbs = i := rfl
  rw [this]
  by_cases h : i = 0
  · subst h
    decide
  · exact Nat.lt_trans ((Nat.log2_lt (k := 20) h).mpr (Nat.lt_of_lt_of_le hi (by decide))) (by decide)
/-- as many numbers as names: one makes no name of them -/
theorem aNum_free {N : List Str} {n : Nat} (hn : n ≤ 1000000) (h : ∀ j, j < n → aNum j ∈ N) : n ≤ N.length := by
  have nd : ((List.range n).map aNum).Nodup := by
    rw [List.nodup_iff_pairwise_ne, List.pairwise_map]
    refine List.Pairwise.imp_of_mem (fun {a b} ha hb ne e => ne (aNum_inj ?_ ?_ e)) (List.nodup_iff_pairwise_ne.mp List.nodup_range)
    · have := List.mem_range.mp ha; omega
    · have := List.mem_range.mp hb; omega
  have := nd_sub (ys := N) nd fun x hx => by
    obtain ⟨j, hj, rfl⟩ := List.mem_map.mp hx
    exact h j (List.mem_range.mp hj)
  rwa [List.length_map, List.length_range] at this
end DL

/-! FP: what machines of like trees make of words; how many pairs there are; how many ends (own work). -/
namespace DL
open PySem L2 PySem.W

/-! ### a machine that counts from elsewhere -/
def shM (k : Nat) (m : Mc) : Mc := ⟨m.at_, m.fi.map (k + ·), m.la.map (k + ·), m.pr.map fun p => (k + p.1, k + p.2), m.op⟩
theorem crN_map (k : Nat) (xs ys : List Nat) : (crN xs ys).map (fun p => (k + p.1, k + p.2)) = crN (xs.map (k + ·)) (ys.map (k + ·)) := by
  unfold crN
  rw [List.map_flatMap, List.flatMap_map]
  congr 1
  funext x
  rw [List.map_map, List.map_map]
  rfl
def eiM (m n : Mc) : Mc := ⟨m.at_ ++ n.at_, m.fi ++ n.fi, m.la ++ n.la, m.pr ++ n.pr, m.op || n.op⟩
def joM (m n : Mc) : Mc := ⟨m.at_ ++ n.at_, if m.op then m.fi ++ n.fi else m.fi, if n.op then m.la ++ n.la else n.la, m.pr ++ n.pr ++ crN m.la n.fi, m.op && n.op⟩
def reM (m : Mc) : Mc := ⟨m.at_, m.fi, m.la, m.pr ++ crN m.la m.fi, true⟩
theorem eiM_sh (k : Nat) (m n : Mc) : eiM (shM k m) (shM k n) = shM k (eiM m n) := by
  unfold eiM shM
  simp only [List.map_append]
theorem joM_sh (k : Nat) (m n : Mc) : joM (shM k m) (shM k n) = shM k (joM m n) := by
  unfold joM shM
  simp only [List.map_append, crN_map]
  congr 1
  · cases m.op <;> simp
  · cases n.op <;> simp
theorem reM_sh (k : Nat) (m : Mc) : reM (shM k m) = shM k (reM m) := by
  unfold reM shM
  simp only [List.map_append, crN_map]
theorem mcT_sh : ∀ (t : Tr) (k s : Nat), mcT t (k + s) = shM k (mcT t s)
  | .at kd ns, k, s => rfl
  | .rep a, k, s => by
    show reM (mcT a (k + s)) = shM k (reM (mcT a s))
    rw [mcT_sh a k s, reM_sh]
  | .opt a, k, s => by
    have h := mcT_sh a k s
    show Mc.mk (mcT a (k + s)).at_ (mcT a (k + s)).fi (mcT a (k + s)).la (mcT a (k + s)).pr true = _
    rw [h]
    rfl
  | .either a b, k, s => by
    show eiM (mcT a (k + s)) (mcT b (k + s + (mcT a (k + s)).at_.length)) = shM k (eiM (mcT a s) (mcT b (s + (mcT a s).at_.length)))
    rw [mcT_sh a k s, show (shM k (mcT a s)).at_.length = (mcT a s).at_.length from rfl, Nat.add_assoc, mcT_sh b k, eiM_sh]
  | .join a b, k, s => by
    show joM (mcT a (k + s)) (mcT b (k + s + (mcT a (k + s)).at_.length)) = shM k (joM (mcT a s) (mcT b (s + (mcT a s).at_.length)))
    rw [mcT_sh a k s, show (shM k (mcT a s)).at_.length = (mcT a s).at_.length from rfl, Nat.add_assoc, mcT_sh b k, joM_sh]

/-! ### either: both machines side by side -/
/-- two machines side by side -/
def byM (m n : Mc) : Mc := ⟨m.at_ ++ n.at_, m.fi ++ n.fi.map (m.at_.length + ·), m.la ++ n.la.map (m.at_.length + ·), m.pr ++ n.pr.map (fun p => (m.at_.length + p.1, m.at_.length + p.2)), m.op || n.op⟩
theorem mcT_by (a b : Tr) : mcT (.either a b) 0 = byM (mcT a 0) (mcT b 0) := by
  have h : mcT b (mcT a 0).at_.length = shM (mcT a 0).at_.length (mcT b 0) := mcT_sh b (mcT a 0).at_.length 0
  show eiM (mcT a 0) (mcT b (0 + (mcT a 0).at_.length)) = _
  rw [Nat.zero_add, h]
  rfl
section
variable {m n : Mc}
theorem tk_byL {i : Nat} (h : i < m.at_.length) (x : Str) : tkM (byM m n) i x = tkM m i x := by
  unfold tkM byM
  rw [List.getElem?_append_left h]
theorem tk_byR (i : Nat) (x : Str) : tkM (byM m n) (m.at_.length + i) x = tkM n i x := by
  unfold tkM byM
  rw [List.getElem?_append_right (Nat.le_add_right _ _), Nat.add_sub_cancel_left]
theorem start_by (hm : ∀ a ∈ m.fi, a < m.at_.length) (x : Str) : startM (byM m n) x = startM m x ++ (startM n x).map (m.at_.length + ·) := by
  unfold startM
  show (m.fi ++ n.fi.map (m.at_.length + ·)).filter _ = _
  rw [List.filter_append, List.filter_map]
  congr 1
  · exact List.filter_congr fun a ha => tk_byL (hm a ha) x
  · exact congrArg _ (List.filter_congr fun a _ => tk_byR a x)
theorem after_by (hp : ∀ p ∈ m.pr, p.1 < m.at_.length ∧ p.2 < m.at_.length) {ps qs : List Nat} (hps : ∀ p ∈ ps, p < m.at_.length) (x : Str) : afterM (byM m n) (ps ++ qs.map (m.at_.length + ·)) x = afterM m ps x ++ (afterM n qs x).map (m.at_.length + ·) := by
  have bl : ∀ i, i < m.at_.length → behM (byM m n) (ps ++ qs.map (m.at_.length + ·)) i = behM m ps i := fun i hi => by
    unfold behM
    rw [Bool.eq_iff_iff, List.any_eq_true, List.any_eq_true]
    constructor
    · rintro ⟨p, hp1, h⟩
      have h := List.mem_append.mp (of_decide_eq_true h)
      rcases h with h | h
      · rcases List.mem_append.mp hp1 with g | g
        · exact ⟨p, g, decide_eq_true h⟩
        · obtain ⟨q, _, rfl⟩ := List.mem_map.mp g
          have := (hp _ h).1
          simp only at this
          omega
      · obtain ⟨q, _, e⟩ := List.mem_map.mp h
        have := congrArg Prod.snd e
        simp only at this
        omega
    · rintro ⟨p, hp1, h⟩
      exact ⟨p, List.mem_append_left _ hp1, decide_eq_true (List.mem_append_left _ (of_decide_eq_true h))⟩
  have br : ∀ i, behM (byM m n) (ps ++ qs.map (m.at_.length + ·)) (m.at_.length + i) = behM n qs i := fun i => by
    unfold behM
    rw [Bool.eq_iff_iff, List.any_eq_true, List.any_eq_true]
    constructor
    · rintro ⟨p, hp1, h⟩
      have h := List.mem_append.mp (of_decide_eq_true h)
      rcases h with h | h
      · have := (hp _ h).2
        simp only at this
        omega
      · obtain ⟨q, hq, e⟩ := List.mem_map.mp h
        have e1 := congrArg Prod.fst e
        have e2 := congrArg Prod.snd e
        simp only at e1 e2
        rcases List.mem_append.mp hp1 with g | g
        · have := hps p g
          omega
        · obtain ⟨r, hr, rfl⟩ := List.mem_map.mp g
          refine ⟨r, hr, decide_eq_true ?_⟩
          rw [show (r, i) = q from Prod.ext (by show r = q.1; omega) (by show i = q.2; omega)]
          exact hq
    · rintro ⟨p, hp1, h⟩
      exact ⟨m.at_.length + p, List.mem_append_right _ (List.mem_map.mpr ⟨p, hp1, rfl⟩), decide_eq_true (List.mem_append_right _ (List.mem_map.mpr ⟨_, of_decide_eq_true h, rfl⟩))⟩
  unfold afterM
  show (List.range (m.at_ ++ n.at_).length).filter _ = _
  rw [List.length_append, List.range_add, List.filter_append, List.filter_map]
  congr 1
  · exact List.filter_congr fun a ha => by rw [tk_byL (List.mem_range.mp ha), bl a (List.mem_range.mp ha)]
  · exact congrArg _ (List.filter_congr fun a _ => by
      show (tkM (byM m n) (m.at_.length + a) x && behM (byM m n) _ (m.at_.length + a)) = _
      rw [tk_byR, br])
theorem run_by (hf : ∀ a ∈ m.fi, a < m.at_.length) (hp : ∀ p ∈ m.pr, p.1 < m.at_.length ∧ p.2 < m.at_.length) (w : List Str) : runM (byM m n) w = runM m w ++ (runM n w).map (m.at_.length + ·) := by
  induction w using list_snoc_ind with
  | nil => rfl
  | snoc w x ih =>
    by_cases e : w = []
    · subst e
      exact start_by hf x
    · rw [run_snoc e, run_snoc e, run_snoc e, ih]
      refine after_by hp (fun p h => ?_) x
      obtain ⟨y, ys, rfl⟩ : ∃ y ys, w = ys ++ [y] := ⟨w.getLast e, w.dropLast, (List.dropLast_concat_getLast e).symm⟩
      by_cases e2 : ys = []
      · subst e2
        exact hf p (List.mem_filter.mp h).1
      · rw [run_snoc e2] at h
        exact tkM_lt (after_mem.mp h).1
end
theorem run_either (a b : Tr) (w : List Str) : runM (mcT (.either a b) 0) w = runM (mcT a 0) w ++ (runM (mcT b 0) w).map ((mcT a 0).at_.length + ·) := by
  have r := mcT_r a 0
  rw [mcT_by]
  exact run_by (fun x hx => by have := (r.fi x hx).2; omega) (fun p hp => by have := r.pr p hp; omega) w
theorem run_rep2 (a : Tr) (w : List Str) : runM (mcT (.rep (.rep a)) 0) w = runM (mcT (.rep a) 0) w := by
  have af : ∀ ps x, afterM (mcT (.rep (.rep a)) 0) ps x = afterM (mcT (.rep a) 0) ps x := fun ps x => by
    refine List.filter_congr fun b _ => ?_
    have : behM (mcT (.rep (.rep a)) 0) ps b = behM (mcT (.rep a) 0) ps b := by
      unfold behM
      rw [Bool.eq_iff_iff, List.any_eq_true, List.any_eq_true]
      constructor
      · rintro ⟨p, hp, h⟩
        refine ⟨p, hp, decide_eq_true ?_⟩
        rcases List.mem_append.mp (of_decide_eq_true h) with h | h
        · exact h
        · exact List.mem_append_right _ h
      · rintro ⟨p, hp, h⟩
        exact ⟨p, hp, decide_eq_true (List.mem_append_left _ (of_decide_eq_true h))⟩
    rw [this]
    rfl
  have fold : ∀ (r : List Str) (ps : List Nat), r.foldl (afterM (mcT (.rep (.rep a)) 0)) ps = r.foldl (afterM (mcT (.rep a) 0)) ps := fun r => by
    induction r with
    | nil => exact fun _ => rfl
    | cons x r ih => exact fun ps => by rw [List.foldl_cons, List.foldl_cons, af, ih]
  cases w with
  | nil => rfl
  | cons x r => exact fold r _

/-! ### how many pairs there are -/
/-- all that two machines make of words stands in a row of c pairs -/
def PrOk (t u : Tr) (c : Nat) : Prop := ∃ PA : List P2, PA.length ≤ c ∧ ∀ w, w ≠ [] → st2 (mcT t 0) (mcT u 0) w ∈ PA
theorem PrOk.up {t u : Tr} {c d : Nat} (h : PrOk t u c) (hd : c ≤ d) : PrOk t u d := by
  obtain ⟨PA, h1, h2⟩ := h
  exact ⟨PA, by omega, h2⟩
theorem PrOk.all (t u : Tr) : PrOk t u (2 ^ t.ats * 2 ^ u.ats) := ⟨p2All (mcT t 0) (mcT u 0), by rw [p2All_len, mc_at_len, mc_at_len]; exact Nat.le_refl _, fun w h => st2_all t u h⟩
theorem PrOk.swap {t u : Tr} {c : Nat} (h : PrOk t u c) : PrOk u t c := by
  obtain ⟨PA, h1, h2⟩ := h
  exact ⟨PA.map fun p => (p.2, p.1), by rw [List.length_map]; exact h1, fun w hw => List.mem_map.mpr ⟨_, h2 w hw, rfl⟩⟩
/-- what the second makes is told by what others make -/
theorem PrOk.by {t u v : Tr} {c : Nat} (h : PrOk t v c) (f : P2 → List Nat) (hf : ∀ w, runM (mcT u 0) w = f (st2 (mcT t 0) (mcT v 0) w)) : PrOk t u c := by
  obtain ⟨PA, h1, h2⟩ := h
  exact ⟨PA.map fun p => (p.1, f p), by rw [List.length_map]; exact h1, fun w hw => List.mem_map.mpr ⟨_, h2 w hw, by unfold st2; rw [hf]; rfl⟩⟩
theorem PrOk.same (t : Tr) : PrOk t t (2 ^ t.ats) := by
  refine ⟨(subs (List.range (mcT t 0).at_.length)).map fun a => (a, a), by rw [List.length_map, subs_len, List.length_range, mc_at_len]; exact Nat.le_refl _, fun w hw => List.mem_map.mpr ⟨runM (mcT t 0) w, ?_, rfl⟩⟩
  have := st2_all t t hw
  obtain ⟨a, ha, h⟩ := List.mem_flatMap.mp this
  obtain ⟨b, hb, e⟩ := List.mem_map.mp h
  rw [← show a = runM (mcT t 0) w from congrArg Prod.fst e]
  exact ha
theorem PrOk.opt (t : Tr) : PrOk t (.opt t) (2 ^ t.ats) := (PrOk.same t).by (fun p => p.2) fun w => rfl
theorem PrOk.rep (t : Tr) : PrOk (.rep t) (.rep (.rep t)) (2 ^ t.ats) := (PrOk.same (.rep t)).by (fun p => p.2) fun w => run_rep2 t w
theorem PrOk.eitherL (t v : Tr) : PrOk t (.either t v) (2 ^ t.ats * 2 ^ v.ats) := (PrOk.all t v).by (fun p => p.1 ++ p.2.map ((mcT t 0).at_.length + ·)) fun w => run_either t v w
theorem PrOk.eitherR (t v : Tr) : PrOk t (.either v t) (2 ^ t.ats * 2 ^ v.ats) := (PrOk.all t v).by (fun p => p.2 ++ p.1.map ((mcT v 0).at_.length + ·)) fun w => run_either v t w

/-! ### how many ends there are -/
def EB (n : Nat) : Tr → Nat
  | .at _ _ => 1
  | .either a b => EB n a + EB n b
  | .opt a => EB n a + 1
  | .join a b => (n + 1) * EB n b
  | .rep a => n + 1
/-- the rows stay short -/
def EbOk (n : Nat) : Tr → Prop
  | .at _ _ => True
  | .either a b => EbOk n a ∧ EbOk n b ∧ EB n a + EB n b ≤ 90000
  | .opt a => EbOk n a ∧ EB n a + 1 ≤ 90000
  | .join a b => EbOk n a ∧ EbOk n b ∧ EB n a ≤ 50000 ∧ (n + 1) * EB n b ≤ 90000
  | .rep a => EbOk n a ∧ EB n a ≤ 90000
theorem dedN_few {xs : List Nat} {n : Nat} (h : ∀ x ∈ xs, x ≤ n) : (dedN xs).length ≤ n + 1 := nodup_le (by
  have key : ∀ k ≤ xs.length, (((List.range k).filter fun i => !decide (xs.getD i 0 ∈ xs.take i)).map fun i => xs.getD i 0).Nodup ∧ ∀ y, y ∈ ((List.range k).filter fun i => !decide (xs.getD i 0 ∈ xs.take i)).map (fun i => xs.getD i 0) → y ∈ xs.take k := by
    intro k
    induction k with
    | zero => exact fun _ => ⟨List.nodup_nil, fun y h => nomatch h⟩
    | succ k ih =>
      intro hk
      obtain ⟨h1, h2⟩ := ih (by omega)
      have hx : xs[k]? = some (xs.getD k 0) := by rw [List.getD_eq_getElem?_getD, List.getElem?_eq_getElem (by omega)]; rfl
      rw [List.range_succ, List.filter_append, List.map_append, take_succ_some hx]
      by_cases hm : xs.getD k 0 ∈ xs.take k
      · rw [List.filter_cons, decide_eq_true hm]
        simp only [Bool.not_true, Bool.false_eq_true, if_false, List.filter_nil, List.map_nil, List.append_nil]
        exact ⟨h1, fun y hy => List.mem_append_left _ (h2 y hy)⟩
      · rw [List.filter_cons, decide_eq_false hm]
        simp only [Bool.not_false, if_true, List.filter_nil, List.map_cons, List.map_nil]
        refine ⟨?_, fun y hy => ?_⟩
        · rw [List.nodup_append]
          exact ⟨h1, by simp, fun a ha b hb => by
            rintro rfl
            rw [List.mem_singleton.mp hb] at ha
            exact hm (h2 _ ha)⟩
        · rcases List.mem_append.mp hy with hy | hy
          · exact List.mem_append_left _ (h2 y hy)
          · exact List.mem_append_right _ hy
  exact (key xs.length (Nat.le_refl _)).1) fun x hx => h x (dedN_mem.mp hx)
theorem EB_len {ws : List Str} : ∀ (t : Tr) (s : Nat), s ≤ ws.length → (endsL ws t s).length ≤ EB ws.length t
  | .at kd ns, s, hs => by
    unfold endsL EB
    split
    · split <;> simp
    · simp
  | .either a b, s, hs => by
    show (endsL ws a s ++ endsL ws b s).length ≤ EB ws.length a + EB ws.length b
    rw [List.length_append]
    exact Nat.add_le_add (EB_len a s hs) (EB_len b s hs)
  | .opt a, s, hs => Nat.succ_le_succ (EB_len a s hs)
  | .join a b, s, hs => by
    show ((dedN (endsL ws a s)).flatMap (endsL ws b)).length ≤ (ws.length + 1) * EB ws.length b
    refine Nat.le_trans (flatMap_le (b := EB ws.length b) _ fun m hm => EB_len b m (endsL_le hs m (dedN_mem.mp hm))) (Nat.mul_le_mul_right _ (dedN_few fun m hm => endsL_le hs m hm))
  | .rep a, s, hs => by
    have bd : ∀ m ≤ ws.length, ∀ k ∈ endsL ws a m, k ≤ ws.length := fun m hm => endsL_le hm
    obtain ⟨n1, n2⟩ := repGo_nodup bd _ _ _ (RepI.begin hs)
    exact nodup_le n1 n2
theorem EB_dep {n : Nat} (hn : 1 ≤ n) : ∀ {t : Tr}, (t.dep = 0 → EB n t ≤ 1) ∧ (t.dep ≤ 1 → EB n t ≤ n + 1) ∧ (t.dep ≤ 2 → EB n t ≤ (n + 1) * (n + 1))
  | .at kd ns => ⟨fun _ => Nat.le_refl _, fun _ => by show 1 ≤ _; omega, fun _ => by show 1 ≤ _; exact Nat.mul_pos (by omega) (by omega)⟩
  | .rep a => by
    refine ⟨fun h => (by cases h), fun h => Nat.le_refl _, fun h => ?_⟩
    show n + 1 ≤ (n + 1) * (n + 1)
    exact Nat.le_mul_of_pos_right _ (by omega)
  | .opt a => by
    obtain ⟨h0, h1, h2⟩ := EB_dep hn (t := a)
    refine ⟨fun h => (by cases h), fun h => ?_, fun h => ?_⟩
    · have := h0 (by have : a.dep + 1 ≤ 1 := h; omega)
      show EB n a + 1 ≤ _
      omega
    · have := h1 (by have : a.dep + 1 ≤ 2 := h; omega)
      show EB n a + 1 ≤ (n + 1) * (n + 1)
      have e : (n + 1) * (n + 1) = n * (n + 1) + (n + 1) := Nat.succ_mul n (n + 1)
      have : 1 ≤ n * (n + 1) := Nat.mul_pos (by omega) (by omega)
      omega
  | .either a b => by
    obtain ⟨h0, h1, h2⟩ := EB_dep hn (t := a)
    obtain ⟨g0, g1, g2⟩ := EB_dep hn (t := b)
    refine ⟨fun h => (by cases h), fun h => ?_, fun h => ?_⟩
    · have h : max a.dep b.dep + 1 ≤ 1 := h
      have := h0 (by omega)
      have := g0 (by omega)
      show EB n a + EB n b ≤ _
      omega
    · have h : max a.dep b.dep + 1 ≤ 2 := h
      have := h1 (by omega)
      have := g1 (by omega)
      show EB n a + EB n b ≤ (n + 1) * (n + 1)
      have e : (n + 1) * (n + 1) = n * (n + 1) + (n + 1) := Nat.succ_mul n (n + 1)
      have : 1 * (n + 1) ≤ n * (n + 1) := Nat.mul_le_mul_right _ hn
      omega
  | .join a b => by
    obtain ⟨h0, h1, h2⟩ := EB_dep hn (t := a)
    obtain ⟨g0, g1, g2⟩ := EB_dep hn (t := b)
    refine ⟨fun h => (by cases h), fun h => ?_, fun h => ?_⟩
    · have h : max a.dep b.dep + 1 ≤ 1 := h
      have := g0 (by omega)
      show (n + 1) * EB n b ≤ n + 1
      calc (n + 1) * EB n b ≤ (n + 1) * 1 := Nat.mul_le_mul_left _ this
        _ = n + 1 := Nat.mul_one _
    · have h : max a.dep b.dep + 1 ≤ 2 := h
      have := g1 (by omega)
      exact Nat.mul_le_mul_left _ this
theorem sq_le {n : Nat} (h : n ≤ 256) : (n + 1) * (n + 1) ≤ 66049 := Nat.le_trans (Nat.mul_le_mul (show n + 1 ≤ 257 by omega) (show n + 1 ≤ 257 by omega)) (by decide)
/-- trees of at most two nested operators -/
theorem EbOk.dep {n : Nat} (h1 : 1 ≤ n) (hn : n ≤ 256) : ∀ {t : Tr}, t.dep ≤ 2 → EbOk n t
  | .at kd ns, _ => trivial
  | .rep a, h => by
    have h : a.dep + 1 ≤ 2 := h
    have := (EB_dep h1 (t := a)).2.1 (by omega)
    exact ⟨EbOk.dep h1 hn (by omega), by omega⟩
  | .opt a, h => by
    have h : a.dep + 1 ≤ 2 := h
    have := (EB_dep h1 (t := a)).2.1 (by omega)
    exact ⟨EbOk.dep h1 hn (by omega), by omega⟩
  | .either a b, h => by
    have h : max a.dep b.dep + 1 ≤ 2 := h
    have := (EB_dep h1 (t := a)).2.1 (by omega)
    have := (EB_dep h1 (t := b)).2.1 (by omega)
    exact ⟨EbOk.dep h1 hn (by omega), EbOk.dep h1 hn (by omega), by omega⟩
  | .join a b, h => by
    have h : max a.dep b.dep + 1 ≤ 2 := h
    have h3 := (EB_dep h1 (t := a)).2.1 (by omega)
    have h4 := (EB_dep h1 (t := b)).2.1 (by omega)
    have := sq_le hn
    exact ⟨EbOk.dep h1 hn (by omega), EbOk.dep h1 hn (by omega), by omega, Nat.le_trans (Nat.mul_le_mul_left _ h4) (by omega)⟩
theorem EB_mono {n m : Nat} (h : n ≤ m) : ∀ t : Tr, EB n t ≤ EB m t
  | .at _ _ => Nat.le_refl _
  | .either a b => Nat.add_le_add (EB_mono h a) (EB_mono h b)
  | .opt a => Nat.succ_le_succ (EB_mono h a)
  | .join a b => Nat.mul_le_mul (Nat.succ_le_succ h) (EB_mono h b)
  | .rep a => Nat.succ_le_succ h
theorem EbOk.mono {n m : Nat} (h : n ≤ m) : ∀ {t : Tr}, EbOk m t → EbOk n t
  | .at _ _, _ => trivial
  | .either a b, ⟨h1, h2, h3⟩ => ⟨h1.mono h, h2.mono h, Nat.le_trans (Nat.add_le_add (EB_mono h a) (EB_mono h b)) h3⟩
  | .opt a, ⟨h1, h3⟩ => ⟨h1.mono h, Nat.le_trans (Nat.succ_le_succ (EB_mono h a)) h3⟩
  | .join a b, ⟨h1, h2, h3, h4⟩ => ⟨h1.mono h, h2.mono h, Nat.le_trans (EB_mono h a) h3, Nat.le_trans (Nat.mul_le_mul (Nat.succ_le_succ h) (EB_mono h b)) h4⟩
  | .rep a, ⟨h1, h3⟩ => ⟨h1.mono h, Nat.le_trans (EB_mono h a) h3⟩

/-! ### drawn trees -/
theorem nice_at : ∀ {t : Tr} {s : Nat}, niceT t → ∀ p ∈ (mcT t s).at_, p.2.length ≤ 3
  | .at k ns, s, h, p, hp => by
    rw [List.mem_singleton.mp hp]
    exact h.1
  | .join a b, s, h, p, hp => by
    rcases List.mem_append.mp (show p ∈ (mcT a s).at_ ++ (mcT b (s + (mcT a s).at_.length)).at_ from hp) with hp | hp
    · exact nice_at h.1 p hp
    · exact nice_at h.2 p hp
  | .either a b, s, h, p, hp => by
    rcases List.mem_append.mp (show p ∈ (mcT a s).at_ ++ (mcT b (s + (mcT a s).at_.length)).at_ from hp) with hp | hp
    · exact nice_at h.1 p hp
    · exact nice_at h.2 p hp
  | .rep a, s, h, p, hp => nice_at (t := a) h p hp
  | .opt a, s, h, p, hp => nice_at (t := a) h p hp
theorem flat_le {ps : List (Bool × List Str)} {c : Nat} (h : ∀ p ∈ ps, p.2.length ≤ c) : (ps.flatMap fun p => p.2).length ≤ ps.length * c := by
  induction ps with
  | nil => exact Nat.zero_le _
  | cons p ps ih =>
    have h1 := h p List.mem_cons_self
    have h2 := ih fun q hq => h q (List.mem_cons_of_mem _ hq)
    rw [List.flatMap_cons, List.length_append, List.length_cons, Nat.add_mul, Nat.one_mul]
    omega
/-- a second tree beside a first one, as the law draws it -/
structure SecT (t u : Tr) : Prop where
  nt : niceT t
  nu : niceT u
  dt : t.dep ≤ 3
  du : u.dep ≤ 3
  at1 : t.ats ≤ 8
  at2 : u.ats ≤ 8
  pr : PrOk t u 256
  e1 : EbOk 256 t
  e2 : EbOk 256 u
theorem SecT.swap {t u : Tr} (h : SecT t u) : SecT u t := ⟨h.nu, h.nt, h.du, h.dt, h.at2, h.at1, h.pr.swap, h.e2, h.e1⟩
theorem ats_two {t : Tr} {d k : Nat} (h : t.dep ≤ d) (e : 2 ^ d = k) : t.ats ≤ k := Nat.le_trans (ats_le t) (e ▸ Nat.pow_le_pow_right (by decide) h)
section
variable {t : Tr} (nt : niceT t) (dt : t.dep ≤ 2)
include nt dt
theorem sec_two {u : Tr} (nu : niceT u) (du : u.dep ≤ 2) : SecT t u := by
  have a1 := ats_two dt (k := 4) rfl
  have a2 := ats_two du (k := 4) rfl
  exact ⟨nt, nu, by omega, by omega, by omega, by omega, (PrOk.all t u).up (Nat.le_trans (Nat.mul_le_mul (Nat.pow_le_pow_right (by decide) a1) (Nat.pow_le_pow_right (by decide) a2)) (by decide)), EbOk.dep (by decide) (by decide) dt, EbOk.dep (by decide) (by decide) du⟩
theorem sec_opt : SecT t (.opt t) := by
  have a1 := ats_two dt (k := 4) rfl
  have e1 := EbOk.dep (n := 256) (by decide) (by decide) dt
  have e2 := (EB_dep (n := 256) (by decide) (t := t)).2.2 dt
  exact ⟨nt, nt, by omega, by show t.dep + 1 ≤ 3; omega, by omega, by show t.ats ≤ 8; omega, (PrOk.opt t).up (Nat.le_trans (Nat.pow_le_pow_right (by decide) a1) (by decide)), e1, e1, by omega⟩
theorem sec_eitherR {v : Tr} (nv : niceT v) (dv : v.dep ≤ 1) : SecT t (.either v t) := by
  have a1 := ats_two dt (k := 4) rfl
  have a2 := ats_two dv (k := 2) rfl
  have e1 := EbOk.dep (n := 256) (by decide) (by decide) dt
  have e3 := EbOk.dep (n := 256) (by decide) (by decide) (t := v) (by omega)
  have e2 := (EB_dep (n := 256) (by decide) (t := t)).2.2 dt
  have e4 := (EB_dep (n := 256) (by decide) (t := v)).2.1 dv
  exact ⟨nt, ⟨nv, nt⟩, by omega, by show max v.dep t.dep + 1 ≤ 3; omega, by omega, by show v.ats + t.ats ≤ 8; omega, (PrOk.eitherR t v).up (Nat.le_trans (Nat.mul_le_mul (Nat.pow_le_pow_right (by decide) a1) (Nat.pow_le_pow_right (by decide) a2)) (by decide)), e1, e3, e1, by omega⟩
theorem sec_eitherL {v : Tr} (nv : niceT v) (dv : v.dep ≤ 1) : SecT t (.either t v) := by
  have a1 := ats_two dt (k := 4) rfl
  have a2 := ats_two dv (k := 2) rfl
  have e1 := EbOk.dep (n := 256) (by decide) (by decide) dt
  have e3 := EbOk.dep (n := 256) (by decide) (by decide) (t := v) (by omega)
  have e2 := (EB_dep (n := 256) (by decide) (t := t)).2.2 dt
  have e4 := (EB_dep (n := 256) (by decide) (t := v)).2.1 dv
  exact ⟨nt, ⟨nt, nv⟩, by omega, by show max t.dep v.dep + 1 ≤ 3; omega, by omega, by show t.ats + v.ats ≤ 8; omega, (PrOk.eitherL t v).up (Nat.le_trans (Nat.mul_le_mul (Nat.pow_le_pow_right (by decide) a1) (Nat.pow_le_pow_right (by decide) a2)) (by decide)), e1, e1, e3, by omega⟩
theorem sec_rep {a : Tr} (e : t = .rep a) : SecT t (.rep t) := by
  have a1 := ats_two dt (k := 4) rfl
  have e1 := EbOk.dep (n := 256) (by decide) (by decide) dt
  have e2 := (EB_dep (n := 256) (by decide) (t := t)).2.2 dt
  refine ⟨nt, nt, by omega, by show t.dep + 1 ≤ 3; omega, by omega, by show t.ats ≤ 8; omega, ?_, e1, e1, by omega⟩
  subst e
  exact (PrOk.rep a).up (Nat.le_trans (Nat.pow_le_pow_right (by decide) (show a.ats ≤ 4 from a1)) (by decide))
end
theorem wdT_nice {x : Str} {xs : List Str} (h : ∀ n ∈ x :: xs, isNm n = true) : niceT (wdT x xs) := by
  induction xs using list_snoc_ind with
  | nil => exact ⟨Nat.le_of_ble_eq_true rfl, fun _ => List.cons_ne_nil _ _, fun n hn => h n hn⟩
  | snoc ys y ih =>
    rw [wdT_snoc]
    exact ⟨ih fun n hn => h n (by
      rcases List.mem_cons.mp hn with rfl | hn
      · exact List.mem_cons_self
      · exact List.mem_cons_of_mem _ (List.mem_append_left _ hn)), Nat.le_of_ble_eq_true rfl, fun _ => List.cons_ne_nil _ _, fun n hn => h n (by
      rw [List.mem_singleton.mp hn]
      exact List.mem_cons_of_mem _ (List.mem_append_right _ (List.mem_singleton.mpr rfl)))⟩
theorem wdT_ats (x : Str) (xs : List Str) : (wdT x xs).ats = xs.length + 1 := by
  induction xs using list_snoc_ind with
  | nil => rfl
  | snoc ys y ih =>
    rw [wdT_snoc, List.length_append]
    show (wdT x ys).ats + 1 = _
    rw [ih]
    rfl

/-! ### one lane again and again -/
theorem one_pow {x : Str} {n : Nat} {w : List Str} : Lg (powT (.at true [x]) n) w ↔ w = List.replicate (n + 1) x := by
  rw [pow_lane]
  constructor
  · rintro ⟨h1, h2⟩
    exact List.eq_replicate_iff.mpr ⟨h1, fun y hy => List.mem_singleton.mp (h2 y hy)⟩
  · rintro rfl
    exact ⟨List.length_replicate, fun y hy => List.mem_singleton.mpr (List.eq_of_mem_replicate hy)⟩
theorem one_rep {x : Str} {n : Nat} {w : List Str} : Lg (.rep (powT (.at true [x]) n)) w ↔ ∃ j, w = List.replicate (j * (n + 1)) x := by
  constructor
  · have key : ∀ w, Str_ (Lg (powT (.at true [x]) n)) w → ∃ j, w = List.replicate (j * (n + 1)) x := fun w h => by
      induction h with
      | nil => exact ⟨0, by rw [Nat.zero_mul]; rfl⟩
      | @snoc u z _ hz ih =>
        obtain ⟨j, rfl⟩ := ih
        rw [one_pow.mp hz]
        exact ⟨j + 1, by rw [Nat.succ_mul]; exact List.replicate_append_replicate⟩
    exact key w
  · rintro ⟨j, rfl⟩
    induction j with
    | zero =>
      rw [Nat.zero_mul]
      exact Str_.nil
    | succ j ih =>
      rw [Nat.succ_mul, ← List.replicate_append_replicate]
      exact Str_.snoc ih (one_pow.mpr rfl)
theorem one_opt {x : Str} {n : Nat} {w : List Str} : Lg (.opt (powT (.at true [x]) n)) w ↔ w = [] ∨ w = List.replicate (n + 1) x := by
  show (w = [] ∨ Lg (powT (.at true [x]) n) w) ↔ _
  rw [one_pow]
theorem far_opt {x : Str} {n : Nat} {w : List Str} (h : Lg (.opt (powT (.at true [x]) n)) w) : Lg (.rep (powT (.at true [x]) n)) w := by
  rcases one_opt.mp h with rfl | rfl
  · exact one_rep.mpr ⟨0, by rw [Nat.zero_mul]; rfl⟩
  · exact one_rep.mpr ⟨1, by rw [Nat.one_mul]⟩
theorem far_two {x : Str} {n : Nat} : dfW (.rep (powT (.at true [x]) n)) (.opt (powT (.at true [x]) n)) false (List.replicate (2 * (n + 1)) x) := by
  refine .inl ⟨one_rep.mpr ⟨2, rfl⟩, fun z => ?_⟩
  rcases one_opt.mp z with z | z
  · have := congrArg List.length z
    rw [List.length_replicate] at this
    simp at this
  · have := congrArg List.length z
    rw [List.length_replicate, List.length_replicate] at this
    omega
theorem far_pa {x : Str} {n : Nat} {r : Option (List Str)} (h : PaR (.rep (powT (.at true [x]) n)) (.opt (powT (.at true [x]) n)) false r) : r = some (List.replicate (2 * (n + 1)) x) := by
  cases r with
  | none => exact absurd far_two (h _)
  | some w =>
    obtain ⟨h1, h2⟩ := h
    have h3 := h2 _ far_two
    rw [List.length_replicate] at h3
    rcases h1 with ⟨h1, h4⟩ | ⟨_, h1, h4⟩
    · obtain ⟨j, rfl⟩ := one_rep.mp h1
      rw [List.length_replicate] at h3
      have j2 : j ≤ 2 := Nat.le_of_mul_le_mul_right h3 (Nat.succ_pos n)
      rcases (by omega : j = 0 ∨ j = 1 ∨ j = 2) with rfl | rfl | rfl
      · exact absurd (one_opt.mpr (.inl (by rw [Nat.zero_mul]; rfl))) h4
      · exact absurd (one_opt.mpr (.inr (by rw [Nat.one_mul]))) h4
      · rfl
    · exact absurd (far_opt h1) h4

/-! ### a made name is a name; x is None, told by a word -/
theorem aNum_nm {k : Nat} (hk : k ≤ 10000) : isNm (aNum k) = true := by
  have e : (aNum k).cps.toList = 97 :: TL.numL k := by
    have := TL.tl_append ("a" : Str) (Str.ofString (toString ((k : Nat) : Int)))
    rw [TL.tl_num] at this
    exact this
  have l : (TL.numL k).length ≤ 6 := by
    have := num_few (i := k) (by omega)
    rw [str_len] at this
    rwa [show (Str.ofString (toString ((k : Nat) : Int))).cps.toList = TL.numL k from TL.tl_num k] at this
  have dg : ∀ c ∈ TL.numL k, c ∈ digL := fun c hc => by
    obtain ⟨h1, h2⟩ := TL.numL_digits k c hc
    have : c = 48 ∨ c = 49 ∨ c = 50 ∨ c = 51 ∨ c = 52 ∨ c = 53 ∨ c = 54 ∨ c = 55 ∨ c = 56 ∨ c = 57 := by omega
    rcases this with rfl | rfl | rfl | rfl | rfl | rfl | rfl | rfl | rfl | rfl <;> decide +kernel
  have a : (97 : Nat) ∈ letL := by decide +kernel
  unfold isNm
  rw [e]
  unfold nmL
  rw [Bool.and_eq_true, Bool.and_eq_true, List.all_eq_true]
  refine ⟨decide_eq_true (by rw [List.length_cons]; omega), decide_eq_true a, fun c hc => ?_⟩
  rw [Bool.or_eq_true]
  rcases List.mem_cons.mp hc with rfl | hc
  · exact .inl (decide_eq_true a)
  · exact .inr (decide_eq_true (dg c hc))
theorem ev_noneR {K : PySem.W.Frag} {ro : Ro} {ka k1 : Cells} {te : TE} {P : W → Cells → Prop} {bb : Bool} (h : EvR K te ro ka P) (hP : ∀ w k, P w k → (∃ d, w = .val d ∧ isNonD d = bb) ∧ k1.Sublist k) : EvD K (tOp rIsN te (tC .non)) ro ka (.val (.bl bb)) k1 := fun B F0 ta sg H Q e q => h B F0 ta sg H _ e fun w k v H' p e' => by
  obtain ⟨⟨d, rfl, rfl⟩, s⟩ := hP w k p
  refine ⟨rfl, ?_⟩
  rw [e'.isN List.mem_cons_self (.inl rfl)]
  exact q _ _ ((e'.less s).pop.push_imm fun _ => rfl)
/-- a tuple of things that are told by a word -/
theorem evr_tupR {K : PySem.W.Frag} {ro : Ro} {ka : Cells} {tr : TA} {R : List W → Cells → Prop} (h : EvAR K tr ro ka R) (hR : ∀ ws k, R ws k → ∃ ds : List D, ws = ds.map W.val ∧ ds.length ≤ 100000) : EvR K (tTup tr) ro ka (fun w k => ∃ ds : List D, R (ds.map W.val) k ∧ w = .val (.tup ds)) := fun B F0 ta sg H Q e q =>
  h B F0 ta sg H _ e fun ws k vs H1 r hvl e1 => by
    obtain ⟨ds, rfl, hl⟩ := hR ws k r
    rw [List.length_map] at hvl
    refine ⟨Nat.le_trans (by rw [hvl]; exact hl) (by decide : 100000 ≤ sizeLine), fun p hp => q _ k _ _ ⟨ds, r, rfl⟩ ?_⟩
    obtain ⟨F, g, e1⟩ := e1
    obtain ⟨e2, g2⟩ := e1.lay (o := .tup vs) hp rfl
    refine ⟨_, g.trans g2, (e2.held (ta' := ta) fun p hp => List.mem_append_right _ hp).push ⟨p, vs, rfl, .inl (.inl upd_same), ?_⟩⟩
    exact RpL.mono g2.sub.exz e1.nz _ _ (rpl_of hvl fun z hz => e1.tm z (List.mem_append_left _ hz))
theorem EvNR.lstR {K : PySem.W.Frag} {ro : Ro} {ka : Cells} {te : TE} {R : Nd → Cells → Prop} (h : EvNR K te ro ka R) (hR : ∀ n k, R n k → ∃ ds, n = .lst ds) : EvR K te ro ka (fun w k => ∃ ds, R (.lst ds) k ∧ w = .val (.lst ds)) := fun B F0 ta sg H Q e q => h B F0 ta sg H Q e fun n k a H1 r e1 => by
  obtain ⟨ds, rfl⟩ := hR n k r
  exact q _ _ _ _ ⟨ds, r, rfl⟩ e1.freeze_l
theorem evr_cbR {K : PySem.W.Frag} {ro : Ro} {ka : Cells} {te : TE} {P P2 : W → Cells → Prop} {r : List V → Hp → VK → Prop} (h : EvR K te ro ka P) (hP : ∀ w k, P w k → ∃ z, RcD K r k [w] z ∧ P2 z k) : EvR K (tCB r (tCons te tNil)) ro ka P2 := fun B F0 ta sg H Q e q =>
  h B F0 ta sg H _ e fun w k v H1 p e1 => by
    obtain ⟨z, hr, hp⟩ := hP w k p
    refine hr B F0 ro ((v, w) :: ta) sg H1 [v] Q e1 rfl (fun p hp => ?_) fun t H' e' => q z k t H' hp ?_
    · rcases List.mem_cons.mp hp with rfl | hp
      · exact List.mem_cons_self
      · cases hp
    · exact e'.held fun p hp => by
        rcases List.mem_cons.mp hp with rfl | hp
        · exact List.mem_cons_self
        · exact List.mem_cons_of_mem _ (List.mem_cons_of_mem _ hp)
end DL

namespace K14
open PySem L2 DL PySem.W
section
variable {P : Program} {w : World} {K : PySem.W.Frag} {mg : Str → Option Value} {base : Heap}
end
def ct_is_name (K : PySem.W.Frag) : Ct := Ct1 fun a ka out => ∃ d, a = .val d ∧ nmOk d ∧ ka = [] ∧ out = Rt (.bl (isNmD d)) []
section
variable {P : Program} {w : World} {K : PySem.W.Frag} {mg : Str → Option Value} {base : Heap}
theorem ok_is_name (T : Tx K mg) : Fn P w K mg base 4 (He.ga K "is_name") ["word"] (ct_is_name K) := by
  obtain ⟨fd, F⟩ := T.d_is_name
  refine fn_ok F sc_is_name (fun _ _ _ _ _ _ us hl => match us, hl with | [_], _ => rfl) ct1_len (fun cdv A outer s H E hr => ⟨_, (pss_cons (ps_if (PW.pt (pw_or (pt_not (pt_val (pe_callB call_isi rfl T.n_isinstance (by decide +kernel) (pa_cons (pv 0) (pa_cons (pe_bltn (v := .ty "str") rfl T.n_str (by decide +kernel) rfl) pa_nil))))) (pw_or (pt_cmpR (op_eqP (by have := (hr).units; exact this)) (pv 0) pe_str (nomark _)) (pw_or (pt_cmpR op_gt (pe_callB call_lenU rfl T.n_len (by decide +kernel) (pa_cons (pv 0) pa_nil)) (pe_gv rfl T.v_LONGEST) (nomark _)) (pw_or1 (pt_cmpR op_niU (pe_ix ix_seq (pv 0) pe_int fun _ _ => rfl) (pe_gv rfl T.v_LETTERS) (by with_unfolding_all rfl)))))))
      (pss_one (ps_ret pe_bl))
      pss_nil)
      (pss_one (ps_ret (pe_callB (cr_all rfl) rfl T.n_all (by decide +kernel) (pa_cons (pe_lc (te := (tOrV (tOp (rInU K) (tVar 1) (tC (.str "abcdefghijklmnopqrstuvwxyz"))) (tOp (rInU K) (tVar 1) (tC (.str "0123456789"))))) (tt := tYes) (own := [("sign", 1)]) rfl sc_is_name.nd (pi_seq (pv 0)) (blk_ok ["word", "sign"] (defScope s_is_name) rfl rfl (by decide +kernel)) (fun _ _ _ _ _ => (pg_name (i := 1) sc_is_name.nd rfl (by first | exact Or.inl rfl | exact Or.inr rfl))) (fun _ _ _ _ _ => pts_nil) (fun _ _ _ _ _ => (pe_or (pe_cmpR op_inU (pv 1) (pe_gv rfl T.v_LETTERS) (by with_unfolding_all rfl)) (pe_one (pe_cmpR op_inU (pv 1) (pe_gv rfl T.v_DIGITS) (by with_unfolding_all rfl)))))) pa_nil))))), fun ws ka out B F0 Q hC hR hX => ?_⟩)
  obtain ⟨a, rfl, d, rfl, hd, rfl, rfl⟩ := hC
  have other : (∃ s, d = .str s) ∨ ∃ t, tyD d = some t ∧ kitOne K (.type t) (.type "str") = some false ∧ isNmD d = false := by
    cases d with
    | non => exact .inr ⟨_, rfl, T.kt_NoneType_str, rfl⟩
    | bl b => exact .inr ⟨_, rfl, T.kt_bool_str, rfl⟩
    | int i => exact .inr ⟨_, rfl, T.kt_int_str, rfl⟩
    | lst ds => exact .inr ⟨_, rfl, T.kt_list_str, rfl⟩
    | tup ds => exact .inr ⟨_, rfl, T.kt_tuple_str, rfl⟩
    | str s => exact .inl ⟨s, rfl⟩
    | _ => exact absurd rfl hd
  rcases other with ⟨s, rfl⟩ | ⟨t, ht, hk, hn⟩
  · have hs : s.length ≤ 100000 := Nat.le_trans hd (by decide)
    cases hc : s.cps.toList with
    | nil =>
      have e := str_nil hc
      refine q_when (et_or0 ((et_not (et_B (ev_isi (ev_var rfl) .str T.kt_str_str))).to rfl) (et_or1 ((et_test (ev_eqS (ev_var rfl) ev_str)).to (by rw [e]; rfl)))) (fun _ => g_ret hR ev_bl ⟨?_, rfl⟩) (fun z => by cases z)
      show Out.ret (.bl false) = Out.ret (.bl (isNm s))
      unfold isNm
      rw [hc]
      rfl
    | cons c r =>
      have e : (s == ("" : Str)) = false := by
        refine beq_eq_false_iff_ne.mpr fun z => ?_
        rw [z] at hc
        cases hc
      have hl : s.length = (c :: r).length := by rw [str_len, hc]
      refine q_when (et_or0 ((et_not (et_B (ev_isi (ev_var rfl) .str T.kt_str_str))).to rfl) (et_or0 ((et_test (ev_eqS (ev_var rfl) ev_str)).to e) (et_or (et_test (ev_gt (ev_lenS (ev_var rfl) hs) ev_int)) (fun _ => et_test (ev_niS (ev_ixS (c := c) (ev_var rfl) ev_int hs (by rw [hc]; exact at0)) ev_str))))) (fun hb => g_ret hR ev_bl ⟨?_, rfl⟩) (fun hb => ?_)
      · show Out.ret (.bl false) = Out.ret (.bl (isNm s))
        unfold isNm nmL
        rw [hc]
        rw [Bool.or_eq_true, decide_eq_true_eq, Bool.not_eq_true', decide_eq_false_iff_not] at hb
        rcases hb with hb | hb
        · have : ¬ (c :: r).length ≤ 8 := by rw [← hl]; omega
          simp only [decide_eq_false this, Bool.false_and]
        · have : decide (c ∈ letL) = false := decide_eq_false hb
          simp only [this, Bool.false_and, Bool.and_false]
      · rw [Bool.or_eq_false_iff, decide_eq_false_iff_not, Bool.not_eq_false', decide_eq_true_eq] at hb
        refine g_ret hR (ev_cb (ea1 (evn_map (f := fun x => D.bl (decide (x ∈ letL) || decide (x ∈ digL))) (ei_str (ev_var rfl)) (by decide) (by rw [← str_len]; omega) ⟨trivial, fun _ => trivial⟩ (fun x hx => ev_orV (ev_inS (ev_var rfl) ev_str) fun _ => ev_inS (ev_var rfl) ev_str)).lst) (rc_all (b := false) (bs := s.cps.toList.map fun x => decide (x ∈ letL) || decide (x ∈ digL)) ?_)) ⟨?_, rfl⟩
        · rw [List.map_map]
          exact .vl
        · show Out.ret _ = Out.ret (.bl (isNm s))
          unfold isNm nmL
          rw [hc, List.all_map]
          have h1 : (c :: r).length ≤ 8 := by rw [← hl]; omega
          have h2 : decide (c ∈ letL) = true := decide_eq_true hb.2
          simp only [decide_eq_true h1, h2, Bool.true_and]
          rfl
  · exact q_when (et_or1 ((et_not (et_B (ev_isi (ev_var rfl) (tw_of ht) hk))).to rfl)) (fun _ => g_ret hR ev_bl ⟨by rw [hn], rfl⟩) (fun z => by cases z)
end
def ct_is_whole (K : PySem.W.Frag) : Ct := Ct1 fun a ka out => ∃ d, a = .val d ∧ tyD d ≠ none ∧ ka = [] ∧ out = Rt (.bl (isWh d)) []
section
variable {P : Program} {w : World} {K : PySem.W.Frag} {mg : Str → Option Value} {base : Heap}
theorem ok_is_whole (T : Tx K mg) : Fn P w K mg base 4 (He.ga K "is_whole") ["value"] (ct_is_whole K) := by
  obtain ⟨fd, F⟩ := T.d_is_whole
  refine fn_ok F sc_is_whole (fun _ _ _ _ _ _ us hl => match us, hl with | [_], _ => rfl) ct1_len (fun cdv A outer s H E hr => ⟨_, (pss_one (ps_ret (pe_and (pe_callB call_isi rfl T.n_isinstance (by decide +kernel) (pa_cons (pv 0) (pa_cons (pe_bltn (v := .ty "int") rfl T.n_int (by decide +kernel) rfl) pa_nil))) (pe_one (pe_not (pe_callB call_isi rfl T.n_isinstance (by decide +kernel) (pa_cons (pv 0) (pa_cons (pe_bltn (v := .ty "bool") rfl T.n_bool (by decide +kernel) rfl) pa_nil)))))))), fun ws ka out B F0 Q hC hR hX => ?_⟩)
  obtain ⟨a, rfl, d, rfl, hd, rfl, rfl⟩ := hC
  have other : (∃ i, d = .int i) ∨ (∃ b, d = .bl b) ∨ ∃ t, tyD d = some t ∧ kitOne K (.type t) (.type "int") = some false ∧ isWh d = false := by
    cases d with
    | non => exact .inr (.inr ⟨_, rfl, T.kt_NoneType_int, rfl⟩)
    | str b => exact .inr (.inr ⟨_, rfl, T.kt_str_int, rfl⟩)
    | lst ds => exact .inr (.inr ⟨_, rfl, T.kt_list_int, rfl⟩)
    | tup ds => exact .inr (.inr ⟨_, rfl, T.kt_tuple_int, rfl⟩)
    | int i => exact .inl ⟨i, rfl⟩
    | bl b => exact .inr (.inl ⟨b, rfl⟩)
    | _ => exact absurd rfl hd
  rcases other with ⟨i, rfl⟩ | ⟨b, rfl⟩ | ⟨t, ht, hk, hn⟩
  · exact g_ret hR (ev_andV1 (ev_isi (ev_var rfl) .int T.kt_int_int) (ev_notV (ev_isi (ev_var rfl) .int T.kt_int_bool))) ⟨rfl, rfl⟩
  · exact g_ret hR (ev_andV1 (ev_isi (ev_var rfl) .bl T.kt_bool_int) (ev_notV (ev_isi (ev_var rfl) .bl T.kt_bool_bool))) ⟨rfl, rfl⟩
  · exact g_ret hR (ev_andV0 (ev_isi (ev_var rfl) (tw_of ht) hk)) ⟨by rw [hn], rfl⟩
end
/-- is it a number from 0 on -/
def isCt : D → Bool
  | .int i => decide (0 ≤ i)
  | _ => false
def ct_is_count (K : PySem.W.Frag) : Ct := Ct1 fun a ka out => ∃ d, a = .val d ∧ tyD d ≠ none ∧ ka = [] ∧ out = Rt (.bl (isCt d)) []
section
variable {P : Program} {w : World} {K : PySem.W.Frag} {mg : Str → Option Value} {base : Heap}
theorem ok_is_count (T : Tx K mg) (F_is_whole : Fn P w K mg base 4 (He.ga K "is_whole") ["value"] (ct_is_whole K)) : Fn P w K mg base 6 (He.ga K "is_count") ["value"] (ct_is_count K) := by
  obtain ⟨fd, F⟩ := T.d_is_count
  refine fn_ok F sc_is_count (fun _ _ _ _ _ _ us hl => match us, hl with | [_], _ => rfl) ct1_len (fun cdv A outer s H E hr => ⟨_, (pss_one (ps_ret (pe_and (pe_call (F_is_whole.up (by decide)).ok hr rfl T.g_is_whole.1 T.g_is_whole.2 (F_is_whole.up (by decide)).bn .nil (pass_own rfl rfl rfl rfl) (pa_cons (pv 0) pa_nil)) (pe_one (pe_cmpR op_ge (pv 0) pe_int (nomark _)))))), fun ws ka out B F0 Q hC hR hX => ?_⟩)
  obtain ⟨a, rfl, d, rfl, hd, rfl, rfl⟩ := hC
  cases hw : isWh d with
  | false => exact g_ret hR (ev_andV0 ((ev_callP (ea1 (ev_var rfl)) ⟨_, rfl, d, rfl, hd, rfl, rfl⟩).to (by rw [hw]))) ⟨(by cases d <;> first | rfl | cases hw), rfl⟩
  | true =>
    cases d with
    | int i => exact g_ret hR (ev_andV1 (ev_callP (ea1 (ev_var rfl)) ⟨_, rfl, .int i, rfl, hd, rfl, rfl⟩) (ev_ge (ev_var rfl) ev_int)) ⟨rfl, rfl⟩
    | _ => cases hw
end
def anB : D → Bool
  | .tup ds => ds.all isNmD
  | .lst ds => ds.all isNmD
  | _ => false
/-- things that may be asked about -/
def anOk : D → Prop
  | .non => True | .str _ => True | .int _ => True | .dic _ => True
  | .tup ds => ds.length ≤ 1000 ∧ ∀ d ∈ ds, nmOk d
  | .lst ds => ds.length ≤ 1000 ∧ ∀ d ∈ ds, nmOk d
  | _ => False
def ct_are_names (K : PySem.W.Frag) : Ct := Ct1 fun a ka out => ∃ d, a = .val d ∧ anOk d ∧ ka = [] ∧ out = Rt (.bl (anB d)) []
section
variable {P : Program} {w : World} {K : PySem.W.Frag} {mg : Str → Option Value} {base : Heap}
theorem ok_are_names (T : Tx K mg) (F_is_name : Fn P w K mg base 4 (He.ga K "is_name") ["word"] (ct_is_name K)) : Fn P w K mg base 6 (He.ga K "are_names") ["things"] (ct_are_names K) := by
  obtain ⟨fd, F⟩ := T.d_are_names
  refine fn_ok F sc_are_names (fun _ _ _ _ _ _ us hl => match us, hl with | [_], _ => rfl) ct1_len (fun cdv A outer s H E hr => ⟨_, (pss_one (ps_ret (pe_and (pe_callB call_isiU rfl T.n_isinstance (by decide +kernel) (pa_cons (pv 0) (pa_cons (pe_tup (pa_cons (pe_bltn (v := .ty "tuple") rfl T.n_tuple (by decide +kernel) rfl) (pa_cons (pe_bltn (v := .ty "list") rfl T.n_list (by decide +kernel) rfl) pa_nil))) pa_nil))) (pe_one (pe_callB (cr_all rfl) rfl T.n_all (by decide +kernel) (pa_cons (pe_lc (te := (tCall (spC K (ct_is_name K)) [] (fun _ _ _ => False) (tCons (tVar 1) tNil))) (tt := tYes) (own := [("thing", 1)]) rfl sc_are_names.nd (pi_seq (pv 0)) (blk_ok ["things", "thing"] (defScope s_are_names) rfl rfl (by decide +kernel)) (fun _ _ _ _ _ => (pg_name (i := 1) sc_are_names.nd rfl (by first | exact Or.inl rfl | exact Or.inr rfl))) (fun _ _ _ _ _ => pts_nil) (fun _ _ _ _ _ => (pe_call (F_is_name.up (by decide)).ok hr rfl T.g_is_name.1 T.g_is_name.2 (F_is_name.up (by decide)).bn .nil passes_no (pa_cons (pv 1) pa_nil)))) pa_nil)))))), fun ws ka out B F0 Q hC hR hX => ?_⟩)
  obtain ⟨a, rfl, d, rfl, hd, rfl, rfl⟩ := hC
  have seq : ∀ (ds : List D) {t : Bool} {w : W}, Lk [] w t ds false → ds.length ≤ 1000 → (∀ d ∈ ds, nmOk d) → EvD K (tCB (rAll K) (tCons (tLc (iSeq K (tVar 0)) (gName 1) tYes (tCall (spC K (ct_is_name K)) [] (fun _ _ _ => False) (tCons (tVar 1) tNil)) [1]) tNil)) [some w, none] [] (.val (.bl (ds.all isNmD))) [] := fun ds {t w} l hl hds => by
    have hmap : ds.map (part false) = ds.map fun d => W.val d := rfl
    refine (ev_cb (ea1 (evn_map (xs := ds) (g := fun d => W.val d) (f := fun d => D.bl (isNmD d)) (hmap ▸ ei_seq (ev_var rfl) l) (by decide) (by omega) ⟨?_, fun x => ?_⟩ (fun d hd => ev_callP (ea1 (ev_var rfl)) ⟨_, rfl, d, rfl, hds d hd, rfl, rfl⟩)).lst) (rc_all (b := false) (bs := ds.map isNmD) (by rw [List.map_map]; exact .vl))).to ?_
    · exact l.stay
    · exact (l.app (kr := [x])).stay
    · rw [List.all_map]
      rfl
  match d, hd with
  | .non, _ => exact g_ret hR (ev_andV0 ((ev_isi2 (ev_var rfl) (tw_of (T := "NoneType") rfl).x T.kt_NoneType_tuple T.kt_NoneType_list).to rfl)) ⟨rfl, rfl⟩
  | .str s, _ => exact g_ret hR (ev_andV0 ((ev_isi2 (ev_var rfl) (tw_of (T := "str") rfl).x T.kt_str_tuple T.kt_str_list).to rfl)) ⟨rfl, rfl⟩
  | .int s, _ => exact g_ret hR (ev_andV0 ((ev_isi2 (ev_var rfl) (tw_of (T := "int") rfl).x T.kt_int_tuple T.kt_int_list).to rfl)) ⟨rfl, rfl⟩
  | .dic s, _ => exact g_ret hR (ev_andV0 ((ev_isi2 (ev_var rfl) twx_dic T.kt_dict_tuple T.kt_dict_list).to rfl)) ⟨rfl, rfl⟩
  | .tup ds, h => exact g_ret hR (ev_andV1 ((ev_isi2 (ev_var rfl) (tw_of (T := "tuple") rfl).x T.kt_tuple_tuple T.kt_tuple_list).to rfl) (seq ds .vt h.1 h.2)) ⟨rfl, rfl⟩
  | .lst ds, h => exact g_ret hR (ev_andV1 ((ev_isi2 (ev_var rfl) (tw_of (T := "list") rfl).x T.kt_list_tuple T.kt_list_list).to rfl) (seq ds .vl h.1 h.2)) ⟨rfl, rfl⟩
end
def ckOut (K : PySem.W.Frag) (ds : List D) (ka : Cells) : Oc := match ds, ds.find? (fun d => !isNmD d) with
  | [], _ => X0 (He.ga K "EmptyWalk") ka
  | _ :: _, none => Rt .non ka
  | _ :: _, some d => Xt (He.ga K "BadName") [("name", d)] ka
theorem ck_ok {K : PySem.W.Frag} {ds : List D} {ka : Cells} (h0 : ds ≠ []) (h : ∀ d ∈ ds, isNmD d = true) : ckOut K ds ka = Rt .non ka := by
  unfold ckOut
  rw [find_none (p := fun d => !isNmD d) fun e he => by rw [h e he]; rfl]
  cases ds with
  | nil => exact absurd rfl h0
  | cons d r => rfl
theorem ck_bad {K : PySem.W.Frag} {ds : List D} {d : D} {ka : Cells} (h : ds.find? (fun d => !isNmD d) = some d) : ckOut K ds ka = Xt (He.ga K "BadName") [("name", d)] ka := by
  unfold ckOut
  rw [h]
  cases ds with
  | nil => cases h
  | cons d r => rfl
def ct_check_lanes (K : PySem.W.Frag) : Ct := Ct1 fun a ka out => ∃ t ds b, Lk ka a t ds b ∧ SqF b ds ∧ (∀ d ∈ ds, nmOk d) ∧ out = ckOut K ds ka
section
variable {P : Program} {w : World} {K : PySem.W.Frag} {mg : Str → Option Value} {base : Heap}
theorem ok_check_lanes (T : Tx K mg) (F_is_name : Fn P w K mg base 4 (He.ga K "is_name") ["word"] (ct_is_name K)) (Z_BadName : Xn P w K mg base (He.ga K "BadName") "name") : Fn P w K mg base 6 (He.ga K "check_lanes") ["lanes"] (ct_check_lanes K) := by
  obtain ⟨fd, F⟩ := T.d_check_lanes
  refine fn_ok F sc_check_lanes (fun _ _ _ _ _ _ us hl => match us, hl with | [_], _ => rfl) ct1_len (fun cdv A outer s H E hr => ⟨_, (pss_cons (ps_if (pt_cmpR (op_eqP (by have := (hr).units; exact this)) (pe_callB call_lenU rfl T.n_len (by decide +kernel) (pa_cons (pv 0) pa_nil)) pe_int (nomark _))
      (pss_one (ps_raise rfl (takes_of rfl rfl rfl rfl) (pmk_zero PySem.F.excBase_ValueError T.x0_EmptyWalk.1 T.g_EmptyWalk.1 T.x0_EmptyWalk.2.1 (raises_own T.x0_EmptyWalk.2.2.1 T.x0_EmptyWalk.2.2.2) rfl)))
      pss_nil)
      (pss_one (ps_for (passes_of rfl) rfl (pi_seq (pv 0)) (pg_name (i := 1) sc_check_lanes.nd rfl (by first | exact Or.inl rfl | exact Or.inr rfl)) (pss_one (ps_if (pt_not (pt_val (pe_call (F_is_name.up (by decide)).ok hr rfl T.g_is_name.1 T.g_is_name.2 (F_is_name.up (by decide)).bn .nil (pass_own rfl rfl rfl rfl) (pa_cons (pv 1) pa_nil))))
      (pss_one (ps_raise rfl (takes_of rfl rfl rfl rfl) (pmk_oex Z_BadName.xc.oex Z_BadName.all.1 Z_BadName.all.2.1 Z_BadName.all.2.2.1 (hr.mono (by decide)) Z_BadName.all.2.2.2 .nil passes_no rfl T.g_BadName.1 (pa_cons (pv 1) pa_nil))))
      pss_nil))))), fun ws ka out B F0 Q hC hR hX => ?_⟩)
  obtain ⟨a, rfl, t, ds, b, l, hf, hd, rfl⟩ := hC
  cases ds with
  | nil => exact q_when ((et_test (ev_eqI (ev_len (ev_var rfl) l) ev_int)).to (b := true) rfl) (fun _ => g_raise0 hX ⟨rfl, rfl⟩) (fun z => by cases z)
  | cons d0 ds0 =>
    refine q_when ((et_test (ev_eqI (ev_len (ev_var rfl) l) ev_int)).to (b := false) ?_) (fun z => by cases z) (fun _ => ?_)
    · refine beq_eq_false_iff_ne.mpr fun z => ?_
      rw [List.length_cons] at z
      omega
    generalize hds : d0 :: ds0 = ds at *
    refine g_forn (ei_seq (ev_var rfl) l) (fun i ro2 ka2 => (∃ v, ro2 = [some a, v]) ∧ ka2 = ka ∧ ∀ d ∈ ds.take i, isNmD d = true) ⟨⟨none, rfl⟩, rfl, fun d h => by simp at h⟩ (fun i ro2 ka2 ⟨_, e, _⟩ => e ▸ l.stay) (fun i w2 ro2 ka2 ta' hw ⟨⟨v, e1⟩, e2, e3⟩ => ?_) (fun ro2 ka2 ta' ⟨⟨v, e1⟩, e2, e3⟩ _ => ?_)
    · subst e1 e2
      rw [List.getElem?_map] at hw
      cases hx : ds[i]? with
      | none => rw [hx] at hw; cases hw
      | some d =>
        rw [hx] at hw
        have hm : d ∈ ds := List.mem_of_getElem? hx
        have hw2 : part b d = w2 := by cases hw; rfl
        rw [part_of hf hm] at hw2
        subst hw2
        refine g_if (et_not (et_B (ev_callP (ea1 (ev_var rfl)) ⟨_, rfl, d, rfl, hd d hm, rfl, rfl⟩))) (fun hb => g_raise1 hX (ea1 (ev_var rfl)) Z_BadName.xc.oex Z_BadName.no ?_) (fun hb => g_next (g_jp ⟨⟨_, rfl⟩, rfl, fun e he => ?_⟩))
        · rw [ck_bad (find_first (p := fun d => !isNmD d) (fun e he => by rw [e3 e he]; rfl) hx hb)]
          exact ⟨rfl, rfl⟩
        · rw [take_succ_some hx] at he
          rcases List.mem_append.mp he with he | he
          · exact e3 e he
          · rw [List.mem_singleton.mp he]
            simpa using hb
    · subst e1 e2
      rw [List.length_map, List.take_length] at e3
      refine g_end hR ?_
      rw [ck_ok (by rw [← hds]; simp) e3]
      exact ⟨rfl, rfl⟩
end
def ct_crossed (K : PySem.W.Frag) : Ct := Ct2 fun a b ka out => ∃ xs ys : List Nat, a = .val (.lst (nmD xs)) ∧ b = .val (.lst (nmD ys)) ∧ xs.length * ys.length < 100000 ∧ ka = [] ∧ out = Rt (.lst ((crN xs ys).map prD)) []
section
variable {P : Program} {w : World} {K : PySem.W.Frag} {mg : Str → Option Value} {base : Heap}
theorem ok_crossed (T : Tx K mg) : Fn P w K mg base 4 (He.ga K "crossed") ["one", "two"] (ct_crossed K) := by
  obtain ⟨fd, F⟩ := T.d_crossed
  refine fn_ok F sc_crossed (fun _ _ _ _ _ _ us hl => match us, hl with | [_, _], _ => rfl) ct2_len (fun cdv A outer s H E hr => ⟨_, (pss_one (ps_ret (pe_lc2 (own := [("first", 2), ("second", 3)]) (vs1 := [3]) (tt := tYes) (wi1 := (iSeq K (tVar 1))) (tt1 := tYes) (te := (tTup (tCons (tVar 2) (tCons (tVar 3) tNil)))) rfl sc_crossed.nd (pi_seq (pv 0)) (blk_ok ["one", "two", "first", "second"] (defScope s_crossed) rfl rfl (by decide +kernel)) (by decide) (fun _ _ _ _ _ => (pg_name (i := 2) sc_crossed.nd rfl (by first | exact Or.inl rfl | exact Or.inr rfl))) (fun _ _ _ _ _ => pts_nil) (fun _ _ _ _ _ => (pi_seq (pv 1))) (fun _ _ _ _ _ => (pg_name (i := 3) sc_crossed.nd rfl (by first | exact Or.inl rfl | exact Or.inr rfl))) (fun _ _ _ _ _ => pts_nil) (fun _ _ _ _ _ => (pe_tup (pa_cons (pv 2) (pa_cons (pv 3) pa_nil))))))), fun ws ka out B F0 Q hC hR hX => ?_⟩)
  obtain ⟨a, b, rfl, xs, ys, rfl, rfl, hz, rfl, rfl⟩ := hC
  refine g_ret hR ((evn_lc2 (xs := xs) (ys := ys) (f := fun n : Nat => .val (.int (n : Int))) (f2 := fun n : Nat => .val (.int (n : Int))) (d := fun x y => prD (x, y)) (ei_map (ts := xs) (f := fun n : Nat => D.int (n : Int)) (ev_var rfl)) (by decide) hz (fun x k => ei_map (ts := ys) (f := fun n : Nat => D.int (n : Int)) (ev_var rfl)) (fun x y k => ev_tup (ds := [.int (x : Int), .int (y : Int)]) (ea2 (ev_var rfl) (ev_var rfl)) (Nat.le_of_ble_eq_true rfl))).lst.to ?_) ⟨rfl, rfl⟩
  unfold crN
  rw [List.map_flatMap]
  congr 3
  funext x
  rw [List.map_map]
  rfl
end
def ct_read_tree (d : Nat) (K : PySem.W.Frag) : Ct := Ct2 fun a b ka out => ∃ (t : Tr) (s : Nat), a = .val (t.d false) ∧ b = .val (.int (s : Int)) ∧ t.dep < d ∧ t.sm ∧ ka = [] ∧ out = Rt (rdT (mcT t s)) []
theorem ct_read_tree_zero (K : PySem.W.Frag) : ∀ ws ka out, ¬ ct_read_tree 0 K ws ka out := fun ws ka out ⟨_, _, _, t, s, _, _, hd, _⟩ => absurd hd (Nat.not_lt_zero _)
section
variable {P : Program} {w : World} {K : PySem.W.Frag} {mg : Str → Option Value} {base : Heap}
theorem ok_read_tree (T : Tx K mg) (F_crossed : Fn P w K mg base 4 (He.ga K "crossed") ["one", "two"] (ct_crossed K)) : ∀ d : Nat, Fn P w K mg base (2 * d + 6) (He.ga K "read_tree") ["tree", "start"] (ct_read_tree d K) := by
  obtain ⟨fd, F⟩ := T.d_read_tree
  intro d
  induction d with
  | zero => exact fn_vac F sc_read_tree (fun _ _ _ _ _ _ us hl => match us, hl with | [_, _], _ => rfl) (ct_read_tree_zero K)
  | succ d F_read_tree => ?_
  refine fn_ok F sc_read_tree (fun _ _ _ _ _ _ us hl => match us, hl with | [_, _], _ => rfl) ct2_len (fun cdv A outer s H E hr => ⟨_, (pss_cons (ps_if (PW.pt (pw_or (pt_cmpR (op_eqP (by have := (hr).units; exact this)) (pe_ix ix_seq (pv 0) pe_int fun _ _ => rfl) pe_str (nomark _)) (pw_or1 (pt_cmpR (op_eqP (by have := (hr).units; exact this)) (pe_ix ix_seq (pv 0) pe_int fun _ _ => rfl) pe_str (nomark _)))))
      (pss_one (ps_ret (pe_tup (pa_cons (pe_lst (pa_cons (pe_tup (pa_cons (pe_cmpR (op_eqP (by have := (hr).units; exact this)) (pe_ix ix_seq (pv 0) pe_int fun _ _ => rfl) pe_str (nomark _)) (pa_cons (pe_ix ix_seq (pv 0) pe_int fun _ _ => rfl) pa_nil))) pa_nil)) (pa_cons (pe_lst (pa_cons (pv 1) pa_nil)) (pa_cons (pe_lst (pa_cons (pv 1) pa_nil)) (pa_cons (pe_lst pa_nil) (pa_cons pe_bl pa_nil))))))))
      pss_nil)
      (pss_cons (ps_set (i := 2) sc_read_tree.nd rfl (by first | exact Or.inl rfl | exact Or.inr rfl) (pe_call (F_read_tree.up (by omega)).ok hr rfl T.g_read_tree.1 T.g_read_tree.2 (F_read_tree.up (by omega)).bn .nil (pass_own rfl rfl rfl rfl) (pa_cons (pe_ix ix_seq (pv 0) pe_int fun _ _ => rfl) (pa_cons (pv 1) pa_nil))))
      (pss_cons (ps_if (pt_cmpR (op_eqP (by have := (hr).units; exact this)) (pe_ix ix_seq (pv 0) pe_int fun _ _ => rfl) pe_str (nomark _))
      (pss_one (ps_ret (pe_tup (pa_cons (pe_ix ix_seq (pv 2) pe_int fun _ _ => rfl) (pa_cons (pe_ix ix_seq (pv 2) pe_int fun _ _ => rfl) (pa_cons (pe_ix ix_seq (pv 2) pe_int fun _ _ => rfl) (pa_cons (pe_op op_addU (pe_ix ix_seq (pv 2) pe_int fun _ _ => rfl) (pe_call (F_crossed.up (by omega)).ok hr rfl T.g_crossed.1 T.g_crossed.2 (F_crossed.up (by omega)).bn .nil (pass_own rfl rfl rfl rfl) (pa_cons (pe_ix ix_seq (pv 2) pe_int fun _ _ => rfl) (pa_cons (pe_ix ix_seq (pv 2) pe_int fun _ _ => rfl) pa_nil)))) (pa_cons pe_bl pa_nil))))))))
      pss_nil)
      (pss_cons (ps_if (pt_cmpR (op_eqP (by have := (hr).units; exact this)) (pe_ix ix_seq (pv 0) pe_int fun _ _ => rfl) pe_str (nomark _))
      (pss_one (ps_ret (pe_tup (pa_cons (pe_ix ix_seq (pv 2) pe_int fun _ _ => rfl) (pa_cons (pe_ix ix_seq (pv 2) pe_int fun _ _ => rfl) (pa_cons (pe_ix ix_seq (pv 2) pe_int fun _ _ => rfl) (pa_cons (pe_ix ix_seq (pv 2) pe_int fun _ _ => rfl) (pa_cons pe_bl pa_nil))))))))
      pss_nil)
      (pss_cons (ps_set (i := 3) sc_read_tree.nd rfl (by first | exact Or.inl rfl | exact Or.inr rfl) (pe_call (F_read_tree.up (by omega)).ok hr rfl T.g_read_tree.1 T.g_read_tree.2 (F_read_tree.up (by omega)).bn .nil (pass_own rfl rfl rfl rfl) (pa_cons (pe_ix ix_seq (pv 0) pe_int fun _ _ => rfl) (pa_cons (pe_op op_addU (pv 1) (pe_callB call_lenU rfl T.n_len (by decide +kernel) (pa_cons (pe_ix ix_seq (pv 2) pe_int fun _ _ => rfl) pa_nil))) pa_nil))))
      (pss_cons (ps_if (pt_cmpR (op_eqP (by have := (hr).units; exact this)) (pe_ix ix_seq (pv 0) pe_int fun _ _ => rfl) pe_str (nomark _))
      (pss_one (ps_ret (pe_tup (pa_cons (pe_op op_addU (pe_ix ix_seq (pv 2) pe_int fun _ _ => rfl) (pe_ix ix_seq (pv 3) pe_int fun _ _ => rfl)) (pa_cons (pe_op op_addU (pe_ix ix_seq (pv 2) pe_int fun _ _ => rfl) (pe_ix ix_seq (pv 3) pe_int fun _ _ => rfl)) (pa_cons (pe_op op_addU (pe_ix ix_seq (pv 2) pe_int fun _ _ => rfl) (pe_ix ix_seq (pv 3) pe_int fun _ _ => rfl)) (pa_cons (pe_op op_addU (pe_ix ix_seq (pv 2) pe_int fun _ _ => rfl) (pe_ix ix_seq (pv 3) pe_int fun _ _ => rfl)) (pa_cons (pe_or (pe_ix ix_seq (pv 2) pe_int fun _ _ => rfl) (pe_one (pe_ix ix_seq (pv 3) pe_int fun _ _ => rfl))) pa_nil))))))))
      pss_nil)
      (pss_cons (ps_set (i := 4) sc_read_tree.nd rfl (by first | exact Or.inl rfl | exact Or.inr rfl) (pe_ifExp (pt_val (pe_ix ix_seq (pv 2) pe_int fun _ _ => rfl)) (pe_op op_addU (pe_ix ix_seq (pv 2) pe_int fun _ _ => rfl) (pe_ix ix_seq (pv 3) pe_int fun _ _ => rfl)) (pe_ix ix_seq (pv 2) pe_int fun _ _ => rfl)))
      (pss_cons (ps_set (i := 5) sc_read_tree.nd rfl (by first | exact Or.inl rfl | exact Or.inr rfl) (pe_ifExp (pt_val (pe_ix ix_seq (pv 3) pe_int fun _ _ => rfl)) (pe_op op_addU (pe_ix ix_seq (pv 2) pe_int fun _ _ => rfl) (pe_ix ix_seq (pv 3) pe_int fun _ _ => rfl)) (pe_ix ix_seq (pv 3) pe_int fun _ _ => rfl)))
      (pss_one (ps_ret (pe_tup (pa_cons (pe_op op_addU (pe_ix ix_seq (pv 2) pe_int fun _ _ => rfl) (pe_ix ix_seq (pv 3) pe_int fun _ _ => rfl)) (pa_cons (pv 4) (pa_cons (pv 5) (pa_cons (pe_op op_addU (pe_op op_addU (pe_ix ix_seq (pv 2) pe_int fun _ _ => rfl) (pe_ix ix_seq (pv 3) pe_int fun _ _ => rfl)) (pe_call (F_crossed.up (by omega)).ok hr rfl T.g_crossed.1 T.g_crossed.2 (F_crossed.up (by omega)).bn .nil (pass_own rfl rfl rfl rfl) (pa_cons (pe_ix ix_seq (pv 2) pe_int fun _ _ => rfl) (pa_cons (pe_ix ix_seq (pv 3) pe_int fun _ _ => rfl) pa_nil)))) (pa_cons (pe_and (pe_ix ix_seq (pv 2) pe_int fun _ _ => rfl) (pe_one (pe_ix ix_seq (pv 3) pe_int fun _ _ => rfl))) pa_nil)))))))))))))))), fun ws ka out B F0 Q hC hR hX => ?_⟩)
  obtain ⟨a, b, rfl, t, s, rfl, rfl, hd, hs, rfl, rfl⟩ := hC
  cases t with
  | «at» k ns =>
    refine q_when (b := true) ((et_or (et_test (ev_eqS (ev_ixV (ev_var rfl) ev_int .vt at0) ev_str)) (fun _ => et_test (ev_eqS (ev_ixV (ev_var rfl) ev_int .vt at0) ev_str))).to (by cases k <;> rfl)) (fun _ => ?_) (fun z => by cases z)
    refine g_ret hR (ev_tup (ds := [.lst [atD (k, ns)], .lst (nmD [s]), .lst (nmD [s]), .lst [], .bl false]) (ea_cons (evn_lst (ds := [atD (k, ns)]) (ea1 (ev_tup (ds := [.bl k, .tup (stD ns)]) (ea2 ((ev_eqS (ev_ixV (ev_var rfl) ev_int .vt at0) ev_str).to (by cases k <;> rfl)) (ev_ixV (ev_var rfl) ev_int .vt (atI_nat (j := 1) rfl))) (Nat.le_of_ble_eq_true rfl))) (Nat.le_of_ble_eq_true rfl)).lst (ea_cons (evn_lst (ds := nmD [s]) (ea1 (ev_var rfl)) (Nat.le_of_ble_eq_true rfl)).lst (ea_cons (evn_lst (ds := nmD [s]) (ea1 (ev_var rfl)) (Nat.le_of_ble_eq_true rfl)).lst (ea_cons (evn_lst (ds := []) ea_nil (Nat.le_of_ble_eq_true rfl)).lst (ea1 ev_bl))))) (Nat.le_of_ble_eq_true rfl)) ⟨rfl, rfl⟩
  | rep a =>
    have f := hs.2 s
    have fa := hs.1.fits s
    have hda : a.dep < d := by have : a.dep + 1 < d + 1 := hd; omega
    refine q_when (b := false) ((et_or (et_test (ev_eqS (ev_ixV (ev_var rfl) ev_int .vt at0) ev_str)) (fun _ => et_test (ev_eqS (ev_ixV (ev_var rfl) ev_int .vt at0) ev_str))).to rfl) (fun z => by cases z) (fun _ => ?_)
    refine q_asg (w := .val (rdT (mcT a s))) (ev_callP (ea2 (ev_ixV (ev_var rfl) ev_int .vt (atI_nat (j := 1) rfl)) (ev_var rfl)) ⟨_, _, rfl, a, s, rfl, rfl, hda, hs.1, rfl, rfl⟩) ?_
    refine q_when (b := true) ((et_test (ev_eqS (ev_ixV (ev_var rfl) ev_int .vt at0) ev_str)).to rfl) (fun _ => ?_) (fun z => by cases z)
    have fp := f.p
    have hm : (mcT (.rep a) s).pr = (mcT a s).pr ++ crN (mcT a s).la (mcT a s).fi := rfl
    rw [hm, List.length_append] at fp
    have i1 : atI [D.lst ((mcT a s).at_.map atD), .lst (nmD (mcT a s).fi), .lst (nmD (mcT a s).la), .lst ((mcT a s).pr.map prD), .bl (mcT a s).op] 1 = some (.lst (nmD (mcT a s).fi)) := atI_nat (j := 1) rfl
    have i2 : atI [D.lst ((mcT a s).at_.map atD), .lst (nmD (mcT a s).fi), .lst (nmD (mcT a s).la), .lst ((mcT a s).pr.map prD), .bl (mcT a s).op] 2 = some (.lst (nmD (mcT a s).la)) := atI_nat (j := 2) rfl
    have i3 : atI [D.lst ((mcT a s).at_.map atD), .lst (nmD (mcT a s).fi), .lst (nmD (mcT a s).la), .lst ((mcT a s).pr.map prD), .bl (mcT a s).op] 3 = some (.lst ((mcT a s).pr.map prD)) := atI_nat (j := 3) rfl
    refine g_ret hR ((ev_tup (ds := [.lst ((mcT a s).at_.map atD), .lst (nmD (mcT a s).fi), .lst (nmD (mcT a s).la), .lst ((mcT a s).pr.map prD ++ (crN (mcT a s).la (mcT a s).fi).map prD), .bl true]) (ea_cons (ev_ixV (ev_var rfl) ev_int .vt at0) (ea_cons (ev_ixV (ev_var rfl) ev_int .vt i1) (ea_cons (ev_ixV (ev_var rfl) ev_int .vt i2) (ea_cons (ev_catL (ev_ixV (ev_var rfl) ev_int .vt i3) (ev_callP (ea2 (ev_ixV (ev_var rfl) ev_int .vt i2) (ev_ixV (ev_var rfl) ev_int .vt i1)) ⟨_, _, rfl, _, _, rfl, rfl, ?h1, rfl, rfl⟩) ?h2) (ea1 ev_bl))))) (Nat.le_of_ble_eq_true rfl)).to ?h3) ⟨rfl, rfl⟩
    case h1 =>
      rw [crN_len] at fp
      omega
    case h2 =>
      rw [List.length_map, List.length_map]
      omega
    case h3 =>
      rw [← List.map_append]
      rfl
  | opt a =>
    have hda : a.dep < d := by have : a.dep + 1 < d + 1 := hd; omega
    refine q_when (b := false) ((et_or (et_test (ev_eqS (ev_ixV (ev_var rfl) ev_int .vt at0) ev_str)) (fun _ => et_test (ev_eqS (ev_ixV (ev_var rfl) ev_int .vt at0) ev_str))).to rfl) (fun z => by cases z) (fun _ => ?_)
    refine q_asg (w := .val (rdT (mcT a s))) (ev_callP (ea2 (ev_ixV (ev_var rfl) ev_int .vt (atI_nat (j := 1) rfl)) (ev_var rfl)) ⟨_, _, rfl, a, s, rfl, rfl, hda, hs.1, rfl, rfl⟩) ?_
    refine q_when (b := false) ((et_test (ev_eqS (ev_ixV (ev_var rfl) ev_int .vt at0) ev_str)).to rfl) (fun z => by cases z) (fun _ => ?_)
    refine q_when (b := true) ((et_test (ev_eqS (ev_ixV (ev_var rfl) ev_int .vt at0) ev_str)).to rfl) (fun _ => ?_) (fun z => by cases z)
    have i0 : atI [D.lst ((mcT a s).at_.map atD), .lst (nmD (mcT a s).fi), .lst (nmD (mcT a s).la), .lst ((mcT a s).pr.map prD), .bl (mcT a s).op] 0 = some (.lst ((mcT a s).at_.map atD)) := atI_nat (j := 0) rfl
    have i1 : atI [D.lst ((mcT a s).at_.map atD), .lst (nmD (mcT a s).fi), .lst (nmD (mcT a s).la), .lst ((mcT a s).pr.map prD), .bl (mcT a s).op] 1 = some (.lst (nmD (mcT a s).fi)) := atI_nat (j := 1) rfl
    have i2 : atI [D.lst ((mcT a s).at_.map atD), .lst (nmD (mcT a s).fi), .lst (nmD (mcT a s).la), .lst ((mcT a s).pr.map prD), .bl (mcT a s).op] 2 = some (.lst (nmD (mcT a s).la)) := atI_nat (j := 2) rfl
    have i3 : atI [D.lst ((mcT a s).at_.map atD), .lst (nmD (mcT a s).fi), .lst (nmD (mcT a s).la), .lst ((mcT a s).pr.map prD), .bl (mcT a s).op] 3 = some (.lst ((mcT a s).pr.map prD)) := atI_nat (j := 3) rfl
    have i4 : atI [D.lst ((mcT a s).at_.map atD), .lst (nmD (mcT a s).fi), .lst (nmD (mcT a s).la), .lst ((mcT a s).pr.map prD), .bl (mcT a s).op] 4 = some (.bl (mcT a s).op) := atI_nat (j := 4) rfl
    exact g_ret hR (ev_tup (ds := [.lst ((mcT a s).at_.map atD), .lst (nmD (mcT a s).fi), .lst (nmD (mcT a s).la), .lst ((mcT a s).pr.map prD), .bl true]) (ea_cons (ev_ixV (ev_var rfl) ev_int .vt i0) (ea_cons (ev_ixV (ev_var rfl) ev_int .vt i1) (ea_cons (ev_ixV (ev_var rfl) ev_int .vt i2) (ea_cons (ev_ixV (ev_var rfl) ev_int .vt i3) (ea1 ev_bl))))) (Nat.le_of_ble_eq_true rfl)) ⟨rfl, rfl⟩
  | either a b =>
    have hda : a.dep < d := by have : max a.dep b.dep + 1 < d + 1 := hd; omega
    have hdb : b.dep < d := by have : max a.dep b.dep + 1 < d + 1 := hd; omega
    have f := hs.2.2 s
    have fa := hs.1.fits s
    have fb := hs.2.1.fits (s + (mcT a s).at_.length)
    refine q_when (b := false) ((et_or (et_test (ev_eqS (ev_ixV (ev_var rfl) ev_int .vt at0) ev_str)) (fun _ => et_test (ev_eqS (ev_ixV (ev_var rfl) ev_int .vt at0) ev_str))).to rfl) (fun z => by cases z) (fun _ => ?_)
    refine q_asg (w := .val (rdT (mcT a s))) (ev_callP (ea2 (ev_ixV (ev_var rfl) ev_int .vt (atI_nat (j := 1) rfl)) (ev_var rfl)) ⟨_, _, rfl, a, s, rfl, rfl, hda, hs.1, rfl, rfl⟩) ?_
    refine q_when (b := false) ((et_test (ev_eqS (ev_ixV (ev_var rfl) ev_int .vt at0) ev_str)).to rfl) (fun z => by cases z) (fun _ => ?_)
    refine q_when (b := false) ((et_test (ev_eqS (ev_ixV (ev_var rfl) ev_int .vt at0) ev_str)).to rfl) (fun z => by cases z) (fun _ => ?_)
    have i0 : atI [D.lst ((mcT a s).at_.map atD), .lst (nmD (mcT a s).fi), .lst (nmD (mcT a s).la), .lst ((mcT a s).pr.map prD), .bl (mcT a s).op] 0 = some (.lst ((mcT a s).at_.map atD)) := atI_nat (j := 0) rfl
    have i1 : atI [D.lst ((mcT a s).at_.map atD), .lst (nmD (mcT a s).fi), .lst (nmD (mcT a s).la), .lst ((mcT a s).pr.map prD), .bl (mcT a s).op] 1 = some (.lst (nmD (mcT a s).fi)) := atI_nat (j := 1) rfl
    have i2 : atI [D.lst ((mcT a s).at_.map atD), .lst (nmD (mcT a s).fi), .lst (nmD (mcT a s).la), .lst ((mcT a s).pr.map prD), .bl (mcT a s).op] 2 = some (.lst (nmD (mcT a s).la)) := atI_nat (j := 2) rfl
    have i3 : atI [D.lst ((mcT a s).at_.map atD), .lst (nmD (mcT a s).fi), .lst (nmD (mcT a s).la), .lst ((mcT a s).pr.map prD), .bl (mcT a s).op] 3 = some (.lst ((mcT a s).pr.map prD)) := atI_nat (j := 3) rfl
    have i4 : atI [D.lst ((mcT a s).at_.map atD), .lst (nmD (mcT a s).fi), .lst (nmD (mcT a s).la), .lst ((mcT a s).pr.map prD), .bl (mcT a s).op] 4 = some (.bl (mcT a s).op) := atI_nat (j := 4) rfl
    refine q_asg (w := .val (rdT (mcT b (s + (mcT a s).at_.length)))) (ev_callP (ea2 (ev_ixV (ev_var rfl) ev_int .vt (atI_nat (j := 2) rfl)) ((ev_addI (ev_var rfl) (ev_len (ev_ixV (ev_var rfl) ev_int .vt i0) .vl)).to (w' := .val (.int ((s + (mcT a s).at_.length : Nat) : Int))) (by rw [List.length_map, Int.natCast_add]))) ⟨_, _, rfl, b, s + (mcT a s).at_.length, rfl, rfl, hdb, hs.2.1, rfl, rfl⟩) ?_
    generalize hm : mcT a s = m at *
    generalize hn : mcT b (s + m.at_.length) = n at *
    have k0 : atI [D.lst (n.at_.map atD), .lst (nmD n.fi), .lst (nmD n.la), .lst (n.pr.map prD), .bl n.op] 0 = some (.lst (n.at_.map atD)) := atI_nat (j := 0) rfl
    have k1 : atI [D.lst (n.at_.map atD), .lst (nmD n.fi), .lst (nmD n.la), .lst (n.pr.map prD), .bl n.op] 1 = some (.lst (nmD n.fi)) := atI_nat (j := 1) rfl
    have k2 : atI [D.lst (n.at_.map atD), .lst (nmD n.fi), .lst (nmD n.la), .lst (n.pr.map prD), .bl n.op] 2 = some (.lst (nmD n.la)) := atI_nat (j := 2) rfl
    have k3 : atI [D.lst (n.at_.map atD), .lst (nmD n.fi), .lst (nmD n.la), .lst (n.pr.map prD), .bl n.op] 3 = some (.lst (n.pr.map prD)) := atI_nat (j := 3) rfl
    have k4 : atI [D.lst (n.at_.map atD), .lst (nmD n.fi), .lst (nmD n.la), .lst (n.pr.map prD), .bl n.op] 4 = some (.bl n.op) := atI_nat (j := 4) rfl
    refine q_when (b := true) ((et_test (ev_eqS (ev_ixV (ev_var rfl) ev_int .vt at0) ev_str)).to rfl) (fun _ => ?_) (fun z => by cases z)
    have fp := f.p
    have e : mcT (.either a b) s = ⟨m.at_ ++ n.at_, m.fi ++ n.fi, m.la ++ n.la, m.pr ++ n.pr, m.op || n.op⟩ := by subst hm hn; rfl
    rw [e] at fp hR
    have fp : (m.pr ++ n.pr).length ≤ 90000 := fp
    rw [List.length_append] at fp
    have z : ∀ xs ys : List Nat, xs.length ≤ 300 → ys.length ≤ 300 → (nmD xs).length + (nmD ys).length ≤ 100000 := fun xs ys h1 h2 => by
      unfold nmD
      rw [List.length_map, List.length_map]
      omega
    refine g_ret hR ((ev_tup (ds := [.lst (m.at_.map atD ++ n.at_.map atD), .lst (nmD m.fi ++ nmD n.fi), .lst (nmD m.la ++ nmD n.la), .lst (m.pr.map prD ++ n.pr.map prD), .bl (m.op || n.op)]) (ea_cons (ev_catL (ev_ixV (ev_var rfl) ev_int .vt i0) (ev_ixV (ev_var rfl) ev_int .vt k0) ?h1) (ea_cons (ev_catL (ev_ixV (ev_var rfl) ev_int .vt i1) (ev_ixV (ev_var rfl) ev_int .vt k1) (z _ _ fa.f fb.f)) (ea_cons (ev_catL (ev_ixV (ev_var rfl) ev_int .vt i2) (ev_ixV (ev_var rfl) ev_int .vt k2) (z _ _ fa.l fb.l)) (ea_cons (ev_catL (ev_ixV (ev_var rfl) ev_int .vt i3) (ev_ixV (ev_var rfl) ev_int .vt k3) ?h2) (ea1 (ev_orV (ev_ixV (ev_var rfl) ev_int .vt i4) (fun _ => (ev_ixV (ev_var rfl) ev_int .vt k4)))))))) (Nat.le_of_ble_eq_true rfl)).to ?h3) ⟨rfl, rfl⟩
    case h1 =>
      have h1 := fa.a
      have h2 := fb.a
      rw [List.length_map, List.length_map]
      omega
    case h2 =>
      rw [List.length_map, List.length_map]
      omega
    case h3 =>
      unfold nmD
      rw [← List.map_append, ← List.map_append, ← List.map_append, ← List.map_append]
      rfl
  | join a b =>
    have hda : a.dep < d := by have : max a.dep b.dep + 1 < d + 1 := hd; omega
    have hdb : b.dep < d := by have : max a.dep b.dep + 1 < d + 1 := hd; omega
    have f := hs.2.2 s
    have fa := hs.1.fits s
    have fb := hs.2.1.fits (s + (mcT a s).at_.length)
    refine q_when (b := false) ((et_or (et_test (ev_eqS (ev_ixV (ev_var rfl) ev_int .vt at0) ev_str)) (fun _ => et_test (ev_eqS (ev_ixV (ev_var rfl) ev_int .vt at0) ev_str))).to rfl) (fun z => by cases z) (fun _ => ?_)
    refine q_asg (w := .val (rdT (mcT a s))) (ev_callP (ea2 (ev_ixV (ev_var rfl) ev_int .vt (atI_nat (j := 1) rfl)) (ev_var rfl)) ⟨_, _, rfl, a, s, rfl, rfl, hda, hs.1, rfl, rfl⟩) ?_
    refine q_when (b := false) ((et_test (ev_eqS (ev_ixV (ev_var rfl) ev_int .vt at0) ev_str)).to rfl) (fun z => by cases z) (fun _ => ?_)
    refine q_when (b := false) ((et_test (ev_eqS (ev_ixV (ev_var rfl) ev_int .vt at0) ev_str)).to rfl) (fun z => by cases z) (fun _ => ?_)
    have i0 : atI [D.lst ((mcT a s).at_.map atD), .lst (nmD (mcT a s).fi), .lst (nmD (mcT a s).la), .lst ((mcT a s).pr.map prD), .bl (mcT a s).op] 0 = some (.lst ((mcT a s).at_.map atD)) := atI_nat (j := 0) rfl
    have i1 : atI [D.lst ((mcT a s).at_.map atD), .lst (nmD (mcT a s).fi), .lst (nmD (mcT a s).la), .lst ((mcT a s).pr.map prD), .bl (mcT a s).op] 1 = some (.lst (nmD (mcT a s).fi)) := atI_nat (j := 1) rfl
    have i2 : atI [D.lst ((mcT a s).at_.map atD), .lst (nmD (mcT a s).fi), .lst (nmD (mcT a s).la), .lst ((mcT a s).pr.map prD), .bl (mcT a s).op] 2 = some (.lst (nmD (mcT a s).la)) := atI_nat (j := 2) rfl
    have i3 : atI [D.lst ((mcT a s).at_.map atD), .lst (nmD (mcT a s).fi), .lst (nmD (mcT a s).la), .lst ((mcT a s).pr.map prD), .bl (mcT a s).op] 3 = some (.lst ((mcT a s).pr.map prD)) := atI_nat (j := 3) rfl
    have i4 : atI [D.lst ((mcT a s).at_.map atD), .lst (nmD (mcT a s).fi), .lst (nmD (mcT a s).la), .lst ((mcT a s).pr.map prD), .bl (mcT a s).op] 4 = some (.bl (mcT a s).op) := atI_nat (j := 4) rfl
    refine q_asg (w := .val (rdT (mcT b (s + (mcT a s).at_.length)))) (ev_callP (ea2 (ev_ixV (ev_var rfl) ev_int .vt (atI_nat (j := 2) rfl)) ((ev_addI (ev_var rfl) (ev_len (ev_ixV (ev_var rfl) ev_int .vt i0) .vl)).to (w' := .val (.int ((s + (mcT a s).at_.length : Nat) : Int))) (by rw [List.length_map, Int.natCast_add]))) ⟨_, _, rfl, b, s + (mcT a s).at_.length, rfl, rfl, hdb, hs.2.1, rfl, rfl⟩) ?_
    generalize hm : mcT a s = m at *
    generalize hn : mcT b (s + m.at_.length) = n at *
    have k0 : atI [D.lst (n.at_.map atD), .lst (nmD n.fi), .lst (nmD n.la), .lst (n.pr.map prD), .bl n.op] 0 = some (.lst (n.at_.map atD)) := atI_nat (j := 0) rfl
    have k1 : atI [D.lst (n.at_.map atD), .lst (nmD n.fi), .lst (nmD n.la), .lst (n.pr.map prD), .bl n.op] 1 = some (.lst (nmD n.fi)) := atI_nat (j := 1) rfl
    have k2 : atI [D.lst (n.at_.map atD), .lst (nmD n.fi), .lst (nmD n.la), .lst (n.pr.map prD), .bl n.op] 2 = some (.lst (nmD n.la)) := atI_nat (j := 2) rfl
    have k3 : atI [D.lst (n.at_.map atD), .lst (nmD n.fi), .lst (nmD n.la), .lst (n.pr.map prD), .bl n.op] 3 = some (.lst (n.pr.map prD)) := atI_nat (j := 3) rfl
    have k4 : atI [D.lst (n.at_.map atD), .lst (nmD n.fi), .lst (nmD n.la), .lst (n.pr.map prD), .bl n.op] 4 = some (.bl n.op) := atI_nat (j := 4) rfl
    refine q_when (b := false) ((et_test (ev_eqS (ev_ixV (ev_var rfl) ev_int .vt at0) ev_str)).to rfl) (fun z => by cases z) (fun _ => ?_)
    have fp := f.p
    have e : mcT (.join a b) s = ⟨m.at_ ++ n.at_, if m.op then m.fi ++ n.fi else m.fi, if n.op then m.la ++ n.la else n.la, m.pr ++ n.pr ++ crN m.la n.fi, m.op && n.op⟩ := by subst hm hn; rfl
    rw [e] at fp hR
    have fp : (m.pr ++ n.pr ++ crN m.la n.fi).length ≤ 90000 := fp
    rw [List.length_append, List.length_append] at fp
    have fc := crN_len m.la n.fi
    have z : ∀ xs ys : List Nat, xs.length ≤ 300 → ys.length ≤ 300 → (nmD xs).length + (nmD ys).length ≤ 100000 := fun xs ys h1 h2 => by
      unfold nmD
      rw [List.length_map, List.length_map]
      omega
    have nap : ∀ xs ys : List Nat, nmD xs ++ nmD ys = nmD (xs ++ ys) := fun xs ys => List.map_append.symm
    refine q_asg (w := .val (.lst (nmD (if m.op then m.fi ++ n.fi else m.fi)))) (ev_if (b := m.op) (et_B (ev_ixV (ev_var rfl) ev_int .vt i4)) (fun o => (ev_catL (ev_ixV (ev_var rfl) ev_int .vt i1) (ev_ixV (ev_var rfl) ev_int .vt k1) (z _ _ fa.f fb.f)).to (by rw [if_pos o, nap])) (fun o => EvD.to (ev_ixV (ev_var rfl) ev_int .vt i1) (by rw [if_neg (by rw [o]; decide)]))) ?_
    refine q_asg (w := .val (.lst (nmD (if n.op then m.la ++ n.la else n.la)))) (ev_if (b := n.op) (et_B (ev_ixV (ev_var rfl) ev_int .vt k4)) (fun o => (ev_catL (ev_ixV (ev_var rfl) ev_int .vt i2) (ev_ixV (ev_var rfl) ev_int .vt k2) (z _ _ fa.l fb.l)).to (by rw [if_pos o, nap])) (fun o => EvD.to (ev_ixV (ev_var rfl) ev_int .vt k2) (by rw [if_neg (by rw [o]; decide)]))) ?_
    refine g_ret hR ((ev_tup (ds := [.lst (m.at_.map atD ++ n.at_.map atD), .lst (nmD (if m.op then m.fi ++ n.fi else m.fi)), .lst (nmD (if n.op then m.la ++ n.la else n.la)), .lst (m.pr.map prD ++ n.pr.map prD ++ (crN m.la n.fi).map prD), .bl (m.op && n.op)]) (ea_cons (ev_catL (ev_ixV (ev_var rfl) ev_int .vt i0) (ev_ixV (ev_var rfl) ev_int .vt k0) ?h1) (ea_cons (ev_var rfl) (ea_cons (ev_var rfl) (ea_cons (ev_catL (ev_catL (ev_ixV (ev_var rfl) ev_int .vt i3) (ev_ixV (ev_var rfl) ev_int .vt k3) ?h2) (ev_callP (ea2 (ev_ixV (ev_var rfl) ev_int .vt i2) (ev_ixV (ev_var rfl) ev_int .vt k1)) ⟨_, _, rfl, _, _, rfl, rfl, ?h4, rfl, rfl⟩) ?h5) (ea1 (ev_andV (ev_ixV (ev_var rfl) ev_int .vt i4) (fun _ => (ev_ixV (ev_var rfl) ev_int .vt k4)))))))) (Nat.le_of_ble_eq_true rfl)).to ?h3) ⟨rfl, rfl⟩
    case h1 =>
      have h1 := fa.a
      have h2 := fb.a
      rw [List.length_map, List.length_map]
      omega
    case h2 =>
      rw [List.length_map, List.length_map]
      omega
    case h3 =>
      rw [← List.map_append, ← List.map_append, ← List.map_append]
      rfl
    case h4 =>
      omega
    case h5 =>
      rw [List.length_append, List.length_map, List.length_map, List.length_map]
      omega
end
/-- a machine -/
abbrev McD (K : PySem.W.Frag) (m : Mc) : D := .ins (He.ga K "Machine") [("atoms", .lst (m.at_.map atD)), ("firsts", .lst (nmD m.fi)), ("lasts", .lst (nmD m.la)), ("pairs", .dit (prsD m.pr)), ("is_optional", .bl m.op)]
def ct_Machine___init (K : PySem.W.Frag) : Ct := Ct6 fun s a b c e f ka out => ∃ p d1 d2 d3 d4 d5, s = .val (.adr p) ∧ a = .val d1 ∧ b = .val d2 ∧ c = .val d3 ∧ e = .val d4 ∧ f = .val d5 ∧ ka = [(p, .ins (He.ga K "Machine") [])] ∧
  out = Rt .non [(p, .ins (He.ga K "Machine") [("atoms", d1), ("firsts", d2), ("lasts", d3), ("pairs", d4), ("is_optional", d5)])]
section
variable {P : Program} {w : World} {K : PySem.W.Frag} {mg : Str → Option Value} {base : Heap}
theorem ok_Machine___init (T : Tx K mg) : Fn P w K mg base 4 (He.ma K (He.ga K "Machine") "__init__") ["self", "atoms", "firsts", "lasts", "pairs", "is_optional"] (ct_Machine___init K) := by
  obtain ⟨fd, F⟩ := T.d_Machine___init
  refine fn_ok F sc_Machine___init (fun _ _ _ _ _ _ us hl => match us, hl with | [_, _, _, _, _, _], _ => rfl) ct6_len (fun cdv A outer s H E hr => ⟨_, (pss_cons (ps_fld (pv 0) (pv 1) rfl)
      (pss_cons (ps_fld (pv 0) (pv 2) rfl)
      (pss_cons (ps_fld (pv 0) (pv 3) rfl)
      (pss_cons (ps_fld (pv 0) (pv 4) rfl)
      (pss_one (ps_fld (pv 0) (pv 5) rfl)))))), fun ws ka out B F0 Q hC hR hX => ?_⟩)
  obtain ⟨s1, a, b, c, e, f, rfl, p, d1, d2, d3, d4, d5, rfl, rfl, rfl, rfl, rfl, rfl, rfl, rfl⟩ := hC
  refine q_fld (j := 0) (a := p) (fs := []) (d := d1) (ev_var rfl) (ev_var rfl) rfl T.cl_Machine T.na_Machine_atoms (show 0 < 900 by decide) ?_
  refine q_fld (j := 0) (a := p) (fs := [("atoms", d1)]) (d := d2) (ev_var rfl) (ev_var rfl) rfl T.cl_Machine T.na_Machine_firsts (show 1 < 900 by decide) ?_
  refine q_fld (j := 0) (a := p) (fs := [("atoms", d1), ("firsts", d2)]) (d := d3) (ev_var rfl) (ev_var rfl) rfl T.cl_Machine T.na_Machine_lasts (show 2 < 900 by decide) ?_
  refine q_fld (j := 0) (a := p) (fs := [("atoms", d1), ("firsts", d2), ("lasts", d3)]) (d := d4) (ev_var rfl) (ev_var rfl) rfl T.cl_Machine T.na_Machine_pairs (show 3 < 900 by decide) ?_
  refine g_fld (j := 0) (a := p) (fs := [("atoms", d1), ("firsts", d2), ("lasts", d3), ("pairs", d4)]) (d := d5) (ev_var rfl) (ev_var rfl) rfl T.cl_Machine T.na_Machine_is_optional (show 4 < 900 by decide) ?_
  exact g_end hR ⟨rfl, rfl⟩
end
def ct_made_machine (K : PySem.W.Frag) : Ct := Ct1 fun a ka out => ∃ t : Tr, a = .val (t.d false) ∧ t.dep < 8 ∧ t.sm ∧ ka = [] ∧ out = Rt (McD K (mcT t 0)) []
section
variable {P : Program} {w : World} {K : PySem.W.Frag} {mg : Str → Option Value} {base : Heap}
theorem ok_made_machine (T : Tx K mg) (F_read_tree : Fn P w K mg base 22 (He.ga K "read_tree") ["tree", "start"] (ct_read_tree 8 K)) (F_Machine___init : Fn P w K mg base 4 (He.ma K (He.ga K "Machine") "__init__") ["self", "atoms", "firsts", "lasts", "pairs", "is_optional"] (ct_Machine___init K)) : Fn P w K mg base 24 (He.ga K "made_machine") ["tree"] (ct_made_machine K) := by
  obtain ⟨fd, F⟩ := T.d_made_machine
  refine fn_ok F sc_made_machine (fun _ _ _ _ _ _ us hl => match us, hl with | [_], _ => rfl) ct1_len (fun cdv A outer s H E hr => ⟨_, (pss_cons (ps_asg (pe_call (F_read_tree.up (by decide)).ok hr rfl T.g_read_tree.1 T.g_read_tree.2 (F_read_tree.up (by decide)).bn .nil (pass_own rfl rfl rfl rfl) (pa_cons (pv 0) (pa_cons pe_int pa_nil))) (pg_tup rfl (pgs_cons (pg_name (i := 1) sc_made_machine.nd rfl (by first | exact Or.inl rfl | exact Or.inr rfl)) (pgs_cons (pg_name (i := 2) sc_made_machine.nd rfl (by first | exact Or.inl rfl | exact Or.inr rfl)) (pgs_cons (pg_name (i := 3) sc_made_machine.nd rfl (by first | exact Or.inl rfl | exact Or.inr rfl)) (pgs_cons (pg_name (i := 4) sc_made_machine.nd rfl (by first | exact Or.inl rfl | exact Or.inr rfl)) (pgs_cons (pg_name (i := 5) sc_made_machine.nd rfl (by first | exact Or.inl rfl | exact Or.inr rfl)) pgs_nil)))))))
      (pss_one (ps_ret (pe_make T.mk_Machine (F_Machine___init.up (by decide)).ok hr rfl T.g_Machine.1 (F_Machine___init.up (by decide)).bn .nil (pass_own rfl rfl rfl rfl) (pa_cons (pv 1) (pa_cons (pv 2) (pa_cons (pv 3) (pa_cons (pe_keysT (v := .bl true) (r := .bool true) (hr).units0 rfl (pv 4) rfl (fun _ _ _ _ q => PyProof.Rows.Constant_bool q) rfl (by kernel_rfl) rfl rfl) (pa_cons (pv 5) pa_nil))))))))), fun ws ka out B F0 Q hC hR hX => ?_⟩)
  obtain ⟨a, rfl, t, rfl, hd, hs, rfl, rfl⟩ := hC
  have f := hs.fits 0
  refine q_asgT (w := .val (rdT (mcT t 0))) (ev_callP (ea2 (ev_var rfl) ev_int) ⟨_, _, rfl, t, 0, rfl, rfl, hd, hs, rfl, rfl⟩) (at_tup rfl (al_cons at_n (al_cons at_n (al_cons at_n (al_cons at_n (al_cons at_n al_nil)))))) ?_
  generalize mcT t 0 = m at *
  refine g_ret hR (evn_make (k1 := []) (k2 := []) (ea_cons (ev_var rfl) (ea_cons (ev_var rfl) (ea_cons (ev_var rfl) (ea_cons (evn_keysT (ps := m.pr) T.np_0 (ev_var rfl) (by have := f.p; omega)).dit (ea1 (ev_var rfl)))))) (fun a => ⟨_, ⟨_, _, _, _, _, _, rfl, a, _, _, _, _, _, rfl, rfl, rfl, rfl, rfl, rfl, rfl, rfl⟩, fun _ _ z => z⟩)).ins ⟨rfl, rfl⟩
end
def ct_Machine_takes (K : PySem.W.Frag) : Ct := Ct3 fun s a l ka out => ∃ (m : Mc) (i : Nat) (p : Bool × List Str) (x : Str), s = .val (McD K m) ∧ a = .val (.int (i : Int)) ∧ l = .val (.str x) ∧ m.at_[i]? = some p ∧ ka = [] ∧ out = Rt (.bl (atB p x)) []
section
variable {P : Program} {w : World} {K : PySem.W.Frag} {mg : Str → Option Value} {base : Heap}
theorem ok_Machine_takes (T : Tx K mg) : Fn P w K mg base 4 (He.ma K (He.ga K "Machine") "takes") ["self", "atom", "lane"] (ct_Machine_takes K) := by
  obtain ⟨fd, F⟩ := T.d_Machine_takes
  refine fn_ok F sc_Machine_takes (fun _ _ _ _ _ _ us hl => match us, hl with | [_, _, _], _ => rfl) ct3_len (fun cdv A outer s H E hr => ⟨_, (pss_cons (ps_asg (pe_ix ix_seq (pe_fld (pv 0) rfl) (pv 1) fun _ _ => rfl) (pg_tup rfl (pgs_cons (pg_name (i := 3) sc_Machine_takes.nd rfl (by first | exact Or.inl rfl | exact Or.inr rfl)) (pgs_cons (pg_name (i := 4) sc_Machine_takes.nd rfl (by first | exact Or.inl rfl | exact Or.inr rfl)) pgs_nil))))
      (pss_one (ps_ret (pe_cmpR (op_eqP (by have := (hr).units; exact this)) (pe_cmpR op_inU (pv 2) (pv 4) (by with_unfolding_all rfl)) (pv 3) (nomark _))))), fun ws ka out B F0 Q hC hR hX => ?_⟩)
  obtain ⟨s1, a, l, rfl, m, i, p, x, rfl, rfl, rfl, hi, rfl, rfl⟩ := hC
  refine q_asgT (w := .val (atD p)) (ev_ixV (ev_fld (ev_var rfl) .v T.cl_Machine T.na_Machine_atoms rfl) (ev_var rfl) .vl (atI_nat (by rw [List.getElem?_map, hi]; rfl))) at_t2 ?_
  exact g_ret hR (ev_eqB (ev_inL (ss := p.2) (ev_var rfl) (ev_var rfl) .vt) (ev_var rfl)) ⟨rfl, rfl⟩
end
def ct_Machine_is_behind (K : PySem.W.Frag) : Ct := Ct3 fun s a b ka out => ∃ (m : Mc) (ps : List Nat) (i : Nat), s = .val (McD K m) ∧ a = .val (.tup (nmD ps)) ∧ b = .val (.int (i : Int)) ∧ ps.length ≤ 1000 ∧ ka = [] ∧ out = Rt (.bl (behM m ps i)) []
section
variable {P : Program} {w : World} {K : PySem.W.Frag} {mg : Str → Option Value} {base : Heap}
theorem ok_Machine_is_behind (T : Tx K mg) : Fn P w K mg base 4 (He.ma K (He.ga K "Machine") "is_behind") ["self", "places", "atom"] (ct_Machine_is_behind K) := by
  obtain ⟨fd, F⟩ := T.d_Machine_is_behind
  refine fn_ok F sc_Machine_is_behind (fun _ _ _ _ _ _ us hl => match us, hl with | [_, _, _], _ => rfl) ct3_len (fun cdv A outer s H E hr => ⟨_, (pss_one (ps_ret (pe_callB (cr_any rfl) rfl T.n_any (by decide +kernel) (pa_cons (pe_lc (te := (tDIn (tTup (tCons (tVar 3) (tCons (tVar 2) tNil))) (tFld K (tVar 0) "pairs"))) (tt := tYes) (own := [("place", 3)]) rfl sc_Machine_is_behind.nd (pi_seq (pv 1)) (blk_ok ["self", "places", "atom", "place"] (defScope s_Machine_is_behind) rfl rfl (by decide +kernel)) (fun _ _ _ _ _ => (pg_name (i := 3) sc_Machine_is_behind.nd rfl (by first | exact Or.inl rfl | exact Or.inr rfl))) (fun _ _ _ _ _ => pts_nil) (fun _ _ _ _ _ => (pe_cmp (pc_din (hu1 hr) (pe_tup (pa_cons (pv 3) (pa_cons (pv 2) pa_nil))) (pe_fld (pv 0) rfl)) (by with_unfolding_all rfl)))) pa_nil)))), fun ws ka out B F0 Q hC hR hX => ?_⟩)
  obtain ⟨s1, a, b, rfl, m, ps, i, rfl, rfl, rfl, hl, rfl, rfl⟩ := hC
  refine g_ret hR ((ev_cb (ea1 (evn_filt_to (ds := ps.map fun p => D.bl (decide ((p, i) ∈ m.pr))) (es := (ps.map fun p => decide ((p, i) ∈ m.pr)).map D.bl) (evn_map (xs := ps) (g := fun n : Nat => W.val (.int (n : Int))) (f := fun p => D.bl (decide ((p, i) ∈ m.pr))) (C := Stay (.val (.tup (nmD ps))) (nmD ps)) (EvI.ws (ei_seq (ds := nmD ps) (ev_var rfl) .vt) (by unfold nmD; rw [List.map_map]; rfl)) (by decide) (by omega) ⟨trivial, fun _ => trivial⟩ (fun p hp => (ev_dinP (p := (p, i)) T.np_0 (ev_tup (ds := [.int (p : Int), .int (i : Int)]) (ea2 (ev_var rfl) (ev_var rfl)) (Nat.le_of_ble_eq_true rfl)) (ev_fld (ev_var rfl) .v T.cl_Machine T.na_Machine_pairs rfl)).to (by rw [prs_in]))) (List.map_map.symm)).lst) (rc_any .vl)).to ?_) ⟨rfl, rfl⟩
  unfold behM
  rw [List.any_map]
  rfl
end
theorem tk_at {m : Mc} {i : Nat} {x : Str} {p : Bool × List Str} (h : m.at_[i]? = some p) : tkM m i x = atB p x := by
  unfold tkM
  rw [h]
theorem at_lt {m : Mc} {i : Nat} (h : i < m.at_.length) : ∃ p, m.at_[i]? = some p := ⟨_, List.getElem?_eq_getElem h⟩
def ct_Machine_after (K : PySem.W.Frag) : Ct := Ct3 fun s a l ka out => ∃ (m : Mc) (ps : List Nat) (x : Str), s = .val (McD K m) ∧ a = .val (.tup (nmD ps)) ∧ l = .val (.str x) ∧ Fits m ∧ ps.length ≤ 1000 ∧ ka = [] ∧ out = Rt (.tup (nmD (afterM m ps x))) []
section
variable {P : Program} {w : World} {K : PySem.W.Frag} {mg : Str → Option Value} {base : Heap}
theorem ok_Machine_after (T : Tx K mg) (F_Machine_takes : Fn P w K mg base 4 (He.ma K (He.ga K "Machine") "takes") ["self", "atom", "lane"] (ct_Machine_takes K)) (F_Machine_is_behind : Fn P w K mg base 4 (He.ma K (He.ga K "Machine") "is_behind") ["self", "places", "atom"] (ct_Machine_is_behind K)) : Fn P w K mg base 6 (He.ma K (He.ga K "Machine") "after") ["self", "places", "lane"] (ct_Machine_after K) := by
  obtain ⟨fd, F⟩ := T.d_Machine_after
  refine fn_ok F sc_Machine_after (fun _ _ _ _ _ _ us hl => match us, hl with | [_, _, _], _ => rfl) ct3_len (fun cdv A outer s H E hr => ⟨_, (pss_cons (ps_set (i := 3) sc_Machine_after.nd rfl (by first | exact Or.inl rfl | exact Or.inr rfl) (pe_callB call_lenU rfl T.n_len (by decide +kernel) (pa_cons (pe_fld (pv 0) rfl) pa_nil)))
      (pss_one (ps_ret (pe_callTy call_tupU rfl T.n_tuple (by decide +kernel) (pa_cons (pe_lc (te := (tVar 4)) (tt := (tAnd (tB (tMeth (He.ga K "Machine") "takes" (spC K (ct_Machine_takes K)) [] (fun _ _ _ => False) (tVar 0) (tCons (tVar 4) (tCons (tVar 2) tNil)))) (tB (tMeth (He.ga K "Machine") "is_behind" (spC K (ct_Machine_is_behind K)) [] (fun _ _ _ => False) (tVar 0) (tCons (tVar 1) (tCons (tVar 4) tNil)))))) (own := [("atom", 4)]) rfl sc_Machine_after.nd (pi_range1 rfl T.n_range (pa_cons (pv 3) pa_nil)) (blk_ok ["self", "places", "lane", "size", "atom"] (defScope s_Machine_after) rfl rfl (by decide +kernel)) (fun _ _ _ _ _ => (pg_name (i := 4) sc_Machine_after.nd rfl (by first | exact Or.inl rfl | exact Or.inr rfl))) (fun _ _ _ _ _ => (pts_one (PW.pt (pw_and (pt_val (pe_meth (pv 0) T.cl_Machine T.me_Machine_takes (F_Machine_takes.up (by decide)).ok hr (F_Machine_takes.up (by decide)).bn .nil passes_no (pa_cons (pv 4) (pa_cons (pv 2) pa_nil)))) (pw_and1 (pt_val (pe_meth (pv 0) T.cl_Machine T.me_Machine_is_behind (F_Machine_is_behind.up (by decide)).ok hr (F_Machine_is_behind.up (by decide)).bn .nil passes_no (pa_cons (pv 1) (pa_cons (pv 4) pa_nil))))))))) (fun _ _ _ _ _ => (pv 4))) pa_nil))))), fun ws ka out B F0 Q hC hR hX => ?_⟩)
  obtain ⟨s1, a, l, rfl, m, ps, x, rfl, rfl, rfl, f, hl, rfl, rfl⟩ := hC
  have fa := f.a
  refine q_asg (w := .val (.int ((m.at_.length : Nat) : Int))) ((ev_len (ev_fld (ev_var rfl) .v T.cl_Machine T.na_Machine_atoms rfl) .vl).to (by rw [List.length_map])) ?_
  exact g_ret hR (ev_cb (ea1 (evn_filt (xs := List.range m.at_.length) (g := fun i : Nat => W.val (.int (i : Int))) (f := fun i : Nat => D.int (i : Int)) (p := fun a => tkM m a x && behM m ps a) (C := fun _ => True) (ei_range1 (m := ((m.at_.length : Nat) : Int)) (ea1 (ev_var rfl)) (by omega) (by omega)) (by decide) (by rw [List.length_range]; omega) ⟨trivial, fun _ => trivial⟩ (fun i hi => by
    obtain ⟨p, hp⟩ := at_lt (m := m) (List.mem_range.mp hi)
    refine et_and ((et_B (ev_methP (ev_var rfl) .v rfl (ea2 (ev_var rfl) (ev_var rfl)) ⟨_, _, _, rfl, m, i, p, x, rfl, rfl, rfl, hp, rfl, rfl⟩)).to (by rw [tk_at hp])) (fun _ => et_B (ev_methP (ev_var rfl) .v rfl (ea2 (ev_var rfl) (ev_var rfl)) ⟨_, _, _, rfl, m, ps, i, rfl, rfl, rfl, hl, rfl, rfl⟩))) (fun i hi _ => ev_var rfl)).lst) (rc_tupL .vl (.inl rfl))) ⟨rfl, rfl⟩
end
def ct_Machine_started (K : PySem.W.Frag) : Ct := Ct2 fun s l ka out => ∃ (m : Mc) (x : Str), s = .val (McD K m) ∧ l = .val (.str x) ∧ Fits m ∧ (∀ a ∈ m.fi, a < m.at_.length) ∧ ka = [] ∧ out = Rt (.tup (nmD (startM m x))) []
section
variable {P : Program} {w : World} {K : PySem.W.Frag} {mg : Str → Option Value} {base : Heap}
theorem ok_Machine_started (T : Tx K mg) (F_Machine_takes : Fn P w K mg base 4 (He.ma K (He.ga K "Machine") "takes") ["self", "atom", "lane"] (ct_Machine_takes K)) : Fn P w K mg base 6 (He.ma K (He.ga K "Machine") "started") ["self", "lane"] (ct_Machine_started K) := by
  obtain ⟨fd, F⟩ := T.d_Machine_started
  refine fn_ok F sc_Machine_started (fun _ _ _ _ _ _ us hl => match us, hl with | [_, _], _ => rfl) ct2_len (fun cdv A outer s H E hr => ⟨_, (pss_one (ps_ret (pe_callTy call_tupU rfl T.n_tuple (by decide +kernel) (pa_cons (pe_lc (te := (tVar 2)) (tt := (tB (tMeth (He.ga K "Machine") "takes" (spC K (ct_Machine_takes K)) [] (fun _ _ _ => False) (tVar 0) (tCons (tVar 2) (tCons (tVar 1) tNil))))) (own := [("atom", 2)]) rfl sc_Machine_started.nd (pi_seq (pe_fld (pv 0) rfl)) (blk_ok ["self", "lane", "atom"] (defScope s_Machine_started) rfl rfl (by decide +kernel)) (fun _ _ _ _ _ => (pg_name (i := 2) sc_Machine_started.nd rfl (by first | exact Or.inl rfl | exact Or.inr rfl))) (fun _ _ _ _ _ => (pts_one (pt_val (pe_meth (pv 0) T.cl_Machine T.me_Machine_takes (F_Machine_takes.up (by decide)).ok hr (F_Machine_takes.up (by decide)).bn .nil passes_no (pa_cons (pv 2) (pa_cons (pv 1) pa_nil)))))) (fun _ _ _ _ _ => (pv 2))) pa_nil)))), fun ws ka out B F0 Q hC hR hX => ?_⟩)
  obtain ⟨s1, l, rfl, m, x, rfl, rfl, f, hr, rfl, rfl⟩ := hC
  have ff := f.f
  exact g_ret hR (ev_cb (ea1 (evn_filt (xs := m.fi) (g := fun i : Nat => W.val (.int (i : Int))) (f := fun i : Nat => D.int (i : Int)) (p := fun a => tkM m a x) (ei_map (ts := m.fi) (f := fun n : Nat => D.int (n : Int)) (ev_fld (ev_var rfl) .v T.cl_Machine T.na_Machine_firsts rfl)) (by decide) (by omega) ⟨trivial, fun _ => trivial⟩ (fun i hi => by
    obtain ⟨p, hp⟩ := at_lt (hr i hi)
    exact (et_B (ev_methP (ev_var rfl) .v rfl (ea2 (ev_var rfl) (ev_var rfl)) ⟨_, _, _, rfl, m, i, p, x, rfl, rfl, rfl, hp, rfl, rfl⟩)).to (by rw [tk_at hp])) (fun i hi _ => ev_var rfl)).lst) (rc_tupL .vl (.inl rfl))) ⟨rfl, rfl⟩
end
def ct_Machine_is_done (K : PySem.W.Frag) : Ct := Ct2 fun s a ka out => ∃ (m : Mc) (ps : List Nat), s = .val (McD K m) ∧ a = .val (.tup (nmD ps)) ∧ ps.length ≤ 1000 ∧ ka = [] ∧ out = Rt (.bl (doneM m ps)) []
section
variable {P : Program} {w : World} {K : PySem.W.Frag} {mg : Str → Option Value} {base : Heap}
theorem ok_Machine_is_done (T : Tx K mg) : Fn P w K mg base 4 (He.ma K (He.ga K "Machine") "is_done") ["self", "places"] (ct_Machine_is_done K) := by
  obtain ⟨fd, F⟩ := T.d_Machine_is_done
  refine fn_ok F sc_Machine_is_done (fun _ _ _ _ _ _ us hl => match us, hl with | [_, _], _ => rfl) ct2_len (fun cdv A outer s H E hr => ⟨_, (pss_one (ps_ret (pe_callB (cr_any rfl) rfl T.n_any (by decide +kernel) (pa_cons (pe_lc (te := (tOp (rInU K) (tVar 2) (tFld K (tVar 0) "lasts"))) (tt := tYes) (own := [("place", 2)]) rfl sc_Machine_is_done.nd (pi_seq (pv 1)) (blk_ok ["self", "places", "place"] (defScope s_Machine_is_done) rfl rfl (by decide +kernel)) (fun _ _ _ _ _ => (pg_name (i := 2) sc_Machine_is_done.nd rfl (by first | exact Or.inl rfl | exact Or.inr rfl))) (fun _ _ _ _ _ => pts_nil) (fun _ _ _ _ _ => (pe_cmpR op_inU (pv 2) (pe_fld (pv 0) rfl) (by with_unfolding_all rfl)))) pa_nil)))), fun ws ka out B F0 Q hC hR hX => ?_⟩)
  obtain ⟨s1, a, rfl, m, ps, rfl, rfl, hl, rfl, rfl⟩ := hC
  refine g_ret hR ((ev_cb (ea1 (evn_filt_to (ds := ps.map fun p => D.bl (decide (p ∈ m.la))) (es := (ps.map fun p => decide (p ∈ m.la)).map D.bl) (evn_map (xs := ps) (g := fun n : Nat => W.val (.int (n : Int))) (f := fun p => D.bl (decide (p ∈ m.la))) (C := Stay (.val (.tup (nmD ps))) (nmD ps)) (EvI.ws (ei_seq (ds := nmD ps) (ev_var rfl) .vt) (by unfold nmD; rw [List.map_map]; rfl)) (by decide) (by omega) ⟨trivial, fun _ => trivial⟩ (fun p hp => ev_inN (ev_var rfl) (ev_fld (ev_var rfl) .v T.cl_Machine T.na_Machine_lasts rfl) .vl)) (List.map_map.symm)).lst) (rc_any .vl)).to ?_) ⟨rfl, rfl⟩
  unfold doneM
  rw [List.any_map]
  rfl
end
theorem after_len {m : Mc} {ps : List Nat} {x : Str} (f : Fits m) : (afterM m ps x).length ≤ 1000 := by
  have h := List.length_filter_le (fun a => tkM m a x && behM m ps a) (List.range m.at_.length)
  rw [List.length_range] at h
  have := f.a
  show (List.filter _ _).length ≤ 1000
  omega
theorem start_len {m : Mc} {x : Str} (f : Fits m) : (startM m x).length ≤ 1000 := by
  have h := List.length_filter_le (fun a => tkM m a x) m.fi
  have := f.f
  show (List.filter _ _).length ≤ 1000
  omega
theorem run_len {m : Mc} (f : Fits m) : ∀ (r : List Str) (ps : List Nat), ps.length ≤ 1000 → (r.foldl (afterM m) ps).length ≤ 1000
  | [], ps, h => h
  | x :: r, ps, h => run_len f r _ (after_len f)
def ct_accepts (K : PySem.W.Frag) : Ct := Ct2 fun s a ka out => ∃ (m : Mc) (w : List Str), s = .val (McD K m) ∧ (a = .val (.tup (stD w)) ∨ a = .val (.lst (stD w))) ∧ Fits m ∧ (∀ a ∈ m.fi, a < m.at_.length) ∧ w.length ≤ 1000 ∧ ka = [] ∧ out = Rt (.bl (accM m w)) []
section
variable {P : Program} {w : World} {K : PySem.W.Frag} {mg : Str → Option Value} {base : Heap}
theorem ok_accepts (T : Tx K mg) (F_Machine_after : Fn P w K mg base 6 (He.ma K (He.ga K "Machine") "after") ["self", "places", "lane"] (ct_Machine_after K)) (F_Machine_started : Fn P w K mg base 6 (He.ma K (He.ga K "Machine") "started") ["self", "lane"] (ct_Machine_started K)) (F_Machine_is_done : Fn P w K mg base 4 (He.ma K (He.ga K "Machine") "is_done") ["self", "places"] (ct_Machine_is_done K)) : Fn P w K mg base 8 (He.ga K "accepts") ["machine", "lanes"] (ct_accepts K) := by
  obtain ⟨fd, F⟩ := T.d_accepts
  refine fn_ok F sc_accepts (fun _ _ _ _ _ _ us hl => match us, hl with | [_, _], _ => rfl) ct2_len (fun cdv A outer s H E hr => ⟨_, (pss_cons (ps_if (pt_cmpR (op_eqP (by have := (hr).units; exact this)) (pe_callB call_lenU rfl T.n_len (by decide +kernel) (pa_cons (pv 1) pa_nil)) pe_int (nomark _))
      (pss_one (ps_ret (pe_fld (pv 0) rfl)))
      pss_nil)
      (pss_cons (ps_set (i := 2) sc_accepts.nd rfl (by first | exact Or.inl rfl | exact Or.inr rfl) (pe_meth (pv 0) T.cl_Machine T.me_Machine_started (F_Machine_started.up (by decide)).ok hr (F_Machine_started.up (by decide)).bn .nil (pass_own rfl rfl rfl rfl) (pa_cons (pe_ix ix_seq (pv 1) pe_int fun _ _ => rfl) pa_nil)))
      (pss_cons (ps_for (passes_of rfl) rfl (pi_seq (pe_slice sl_U (pv 1) (po_some pe_int) po_none)) (pg_name (i := 3) sc_accepts.nd rfl (by first | exact Or.inl rfl | exact Or.inr rfl)) (pss_one (ps_set (i := 2) sc_accepts.nd rfl (by first | exact Or.inl rfl | exact Or.inr rfl) (pe_meth (pv 0) T.cl_Machine T.me_Machine_after (F_Machine_after.up (by decide)).ok hr (F_Machine_after.up (by decide)).bn .nil (pass_own rfl rfl rfl rfl) (pa_cons (pv 2) (pa_cons (pv 3) pa_nil))))))
      (pss_one (ps_ret (pe_meth (pv 0) T.cl_Machine T.me_Machine_is_done (F_Machine_is_done.up (by decide)).ok hr (F_Machine_is_done.up (by decide)).bn .nil (pass_own rfl rfl rfl rfl) (pa_cons (pv 2) pa_nil))))))), fun ws ka out B F0 Q hC hR hX => ?_⟩)
  obtain ⟨s1, a, rfl, m, w, rfl, ha, f, hr, hl, rfl, rfl⟩ := hC
  have hlk : ∃ t, Lk [] a t (stD w) false := by
    rcases ha with rfl | rfl
    · exact ⟨_, .vt⟩
    · exact ⟨_, .vl⟩
  obtain ⟨t, lk⟩ := hlk
  cases w with
  | nil =>
    exact q_when (b := true) ((et_test (ev_eqI (ev_len (ev_var rfl) lk) ev_int)).to rfl) (fun _ => g_ret hR (ev_fld (ev_var rfl) .v T.cl_Machine T.na_Machine_is_optional rfl) ⟨rfl, rfl⟩) (fun z => by cases z)
  | cons x r =>
    refine q_when (b := false) ((et_test (ev_eqI (ev_len (ev_var rfl) lk) ev_int)).to (by
      rw [beq_eq_false_iff_ne, stD_len, List.length_cons]
      omega)) (fun z => by cases z) (fun _ => ?_)
    refine q_asg (w := .val (.tup (nmD (startM m x)))) (ev_methP (ev_var rfl) .v rfl (ea1 (ev_ixV (ev_var rfl) ev_int lk at0)) ⟨_, _, rfl, m, x, rfl, rfl, f, hr, rfl, rfl⟩) ?_
    have hsl : (r.length : Int) ≤ 1000 := by rw [List.length_cons] at hl; omega
    have cut : cutD (stD (x :: r)) (some 1) none = stD r := by
      rw [cut_from (by decide) (by rw [stD_len, List.length_cons]; omega)]
      rfl
    have it : EvI K (iSeq K (tSl (rSlU K) (tVar 1) (tPart (tC (.int 1))) tNoPart)) [some (.val (McD K m)), some a, some (.val (.tup (nmD (startM m x)))), none] [] (r.map fun s => W.val (.str s)) (fun _ => True) [] := by
      rcases ha with rfl | rfl
      · exact ei_strsL (t := true) (b := false) ((ev_slT (ev_var rfl) (eo_some ev_int) eo_none).to (by rw [cut])) .vt
      · exact ei_strs ((evn_sl (ev_var rfl) (eo_some ev_int) eo_none .vl).lst.to (by rw [cut]))
    refine q_forn it (fun i ro ka => ∃ v, ro = [some (.val (McD K m)), some a, some (.val (.tup (nmD (runM m (x :: r.take i))))), v] ∧ ka = []) ⟨none, rfl, rfl⟩ (fun _ _ _ _ => trivial) (fun i w ro2 ka2 ta' hw ⟨v, e1, e2⟩ => ?_) (fun ro2 ka2 ta' ⟨v, e1, e2⟩ _ => ?_)
    · subst e1 e2
      rw [List.getElem?_map] at hw
      obtain ⟨y, hy, rfl⟩ := Option.map_eq_some_iff.mp hw
      refine g_asg (w := .val (.tup (nmD (afterM m (runM m (x :: r.take i)) y)))) (ev_methP (ev_var rfl) .v rfl (ea2 (ev_var rfl) (ev_var rfl)) ⟨_, _, _, rfl, m, _, y, rfl, rfl, rfl, f, run_len f (r.take i) _ (start_len f), rfl, rfl⟩) (g_jp ⟨some (.val (.str y)), ?_, rfl⟩)
      have e : runM m (x :: r.take (i + 1)) = afterM m (runM m (x :: r.take i)) y := by
        show (r.take (i + 1)).foldl _ _ = _
        rw [take_succ_some hy, List.foldl_append]
        rfl
      rw [e]
      rfl
    · subst e1 e2
      rw [List.length_map, List.take_length]
      refine g_ret hR ((ev_methP (ev_var rfl) .v rfl (ea1 (ev_var rfl)) ⟨_, _, rfl, m, _, rfl, rfl, run_len f r _ (start_len f), rfl, rfl⟩).to ?_) ⟨rfl, rfl⟩
      unfold accM
      rw [if_neg (by simp)]
end
def ct_all_names (K : PySem.W.Frag) : Ct := Ct2 fun s a ka out => ∃ m n : Mc, s = .val (McD K m) ∧ a = .val (McD K n) ∧ m.at_.length + n.at_.length ≤ 100 ∧ (∀ p ∈ m.at_ ++ n.at_, p.2.length ≤ 100) ∧ ka = [] ∧
  out = fun o k => k = [] ∧ ∃ c, c ≤ 10000 ∧ o = .ret (.lst (stD (anL (m.at_ ++ n.at_) ++ [aNum c]))) ∧ aNum c ∉ anL (m.at_ ++ n.at_)
theorem flat_few {ps : List (Bool × List Str)} {c : Nat} (h : ∀ p ∈ ps, p.2.length ≤ c) : (ps.flatMap fun p => p.2).length ≤ ps.length * c := by
  induction ps with
  | nil => exact Nat.zero_le _
  | cons p ps ih =>
    have h1 := h p List.mem_cons_self
    have h2 := ih fun q hq => h q (List.mem_cons_of_mem _ hq)
    rw [List.flatMap_cons, List.length_append, List.length_cons, Nat.add_mul, Nat.one_mul]
    omega
section
variable {P : Program} {w : World} {K : PySem.W.Frag} {mg : Str → Option Value} {base : Heap}
theorem ok_all_names (T : Tx K mg) : Fn P w K mg base 4 (He.ga K "all_names") ["one", "two"] (ct_all_names K) := by
  obtain ⟨fd, F⟩ := T.d_all_names
  refine fn_ok F sc_all_names (fun _ _ _ _ _ _ us hl => match us, hl with | [_, _], _ => rfl) ct2_len (fun cdv A outer s H E hr => ⟨_, (pss_cons (ps_set (i := 2) sc_all_names.nd rfl (by first | exact Or.inl rfl | exact Or.inr rfl) (pe_lst pa_nil))
      (pss_cons (ps_for (passes_of rfl) rfl (pi_seq (pe_op op_addU (pe_fld (pv 0) rfl) (pe_fld (pv 1) rfl))) (pg_tup rfl (pgs_cons (pg_name (i := 3) sc_all_names.nd rfl (by first | exact Or.inl rfl | exact Or.inr rfl)) (pgs_cons (pg_name (i := 4) sc_all_names.nd rfl (by first | exact Or.inl rfl | exact Or.inr rfl)) pgs_nil))) (pss_one (ps_set (i := 2) sc_all_names.nd rfl (by first | exact Or.inl rfl | exact Or.inr rfl) (pe_op op_addU (pv 2) (pe_lc (te := (tVar 5)) (tt := (tTest (tOp (rNiU K) (tVar 5) (tVar 2)))) (own := [("name", 5)]) rfl sc_all_names.nd (pi_seq (pv 4)) (blk_ok ["one", "two", "names", "is_any", "known", "name", "number"] (defScope s_all_names) rfl rfl (by decide +kernel)) (fun _ _ _ _ _ => (pg_name (i := 5) sc_all_names.nd rfl (by first | exact Or.inl rfl | exact Or.inr rfl))) (fun _ _ _ _ _ => (pts_one (pt_cmpR op_niU (pv 5) (pv 2) (by with_unfolding_all rfl)))) (fun _ _ _ _ _ => (pv 5)))))))
      (pss_cons (ps_set (i := 6) sc_all_names.nd rfl (by first | exact Or.inl rfl | exact Or.inr rfl) pe_int)
      (pss_cons (ps_while (passes_of rfl) (pt_cmpR op_inU (pe_op op_addU pe_str (pe_callTy call_strI rfl T.n_str (by decide +kernel) (pa_cons (pv 6) pa_nil))) (pv 2) (by with_unfolding_all rfl)) (pss_one (ps_set (i := 6) sc_all_names.nd rfl (by first | exact Or.inl rfl | exact Or.inr rfl) (pe_op op_addU (pv 6) pe_int))))
      (pss_one (ps_ret (pe_op op_addU (pv 2) (pe_lst (pa_cons (pe_op op_addU pe_str (pe_callTy call_strI rfl T.n_str (by decide +kernel) (pa_cons (pv 6) pa_nil))) pa_nil))))))))), fun ws ka out B F0 Q hC hR hX => ?_⟩)
  obtain ⟨s1, a, rfl, m, n, rfl, rfl, hl, hp, rfl, rfl⟩ := hC
  have cM := T.cl_Machine
  have few : ∀ i, (anL ((m.at_ ++ n.at_).take i)).length ≤ 10000 := fun i => by
    have h1 := an_len ((m.at_ ++ n.at_).take i)
    have h2 := flat_few (ps := (m.at_ ++ n.at_).take i) (c := 100) fun p h => hp p (List.mem_of_mem_take h)
    have h3 : ((m.at_ ++ n.at_).take i).length ≤ 100 := by
      have := List.length_take_le' i (m.at_ ++ n.at_)
      rw [List.length_append] at this
      omega
    omega
  refine q_asg (w := .val (.lst [])) (evn_lst (ds := []) ea_nil (by decide)).lst ?_
  refine q_forT (ei_seq (t := false) (b := false) (ds := (m.at_ ++ n.at_).map atD) ((ev_catL (ev_fld (d := .lst (m.at_.map atD)) (ev_var rfl) .v cM T.na_Machine_atoms rfl) (ev_fld (d := .lst (n.at_.map atD)) (ev_var rfl) .v cM T.na_Machine_atoms rfl) (by rw [List.length_map, List.length_map]; omega)).to (by rw [List.map_append])) .vl)
    (fun i ro ka => ∃ (v3 v4 v5 v6 : Option W), ro = [some (.val (McD K m)), some (.val (McD K n)), some (.val (.lst (stD (anL ((m.at_ ++ n.at_).take i))))), v3, v4, v5, v6] ∧ ka = [])
    ⟨_, _, _, _, rfl, rfl⟩ (fun i ro ka _ => trivial) (fun i x ro2 ka2 ta' hx ⟨v3, v4, v5, v6, e1, e2⟩ => ?_) (fun ro2 ka2 ta' ⟨v3, v4, v5, v6, e1, e2⟩ _ => ?_)
  · subst e1 e2
    rw [List.map_map, List.getElem?_map] at hx
    obtain ⟨p, hpx, rfl⟩ := Option.map_eq_some_iff.mp hx
    have hpm := hp p (List.mem_of_getElem? hpx)
    refine ⟨_, at_t2, ?_⟩
    refine g_asg (w := .val (.lst (stD (anL ((m.at_ ++ n.at_).take (i + 1)))))) ((ev_catL (ev_var rfl) (evn_filt (xs := p.2) (g := fun s => W.val (.str s)) (f := fun s => D.str s) (p := fun o => !decide (o ∈ anL ((m.at_ ++ n.at_).take i))) (ei_strsL (t := true) (b := false) (ev_var rfl) .vt) (by decide) (by omega) ⟨trivial, fun _ => trivial⟩ (fun o ho => et_test (ev_niL (ev_var rfl) (ev_var rfl) .vl)) (fun o ho _ => ev_var rfl)).lst (by
      have h1 := few i
      have h2 := List.length_filter_le (fun o => !decide (o ∈ anL ((m.at_ ++ n.at_).take i))) p.2
      rw [stD_len, List.length_map]
      omega)).to (by rw [take_succ_some hpx, an_snoc, ← stD_app]; rfl)) (g_jp ⟨_, _, _, _, rfl, rfl⟩)
  subst e1 e2
  rw [List.length_map, List.length_map, List.take_length]
  have few2 := few (m.at_ ++ n.at_).length
  rw [List.take_length] at few2
  generalize anL (m.at_ ++ n.at_) = N at *
  refine q_asg (ev_int (i := 0)) ?_
  refine q_while (fun mm ro ka => ∃ (c : Nat), ro = [some (.val (McD K m)), some (.val (McD K n)), some (.val (.lst (stD N))), v3, v4, v5, some (.val (.int (c : Int)))] ∧ ka = [] ∧ c ≤ 10000 ∧ (∀ j, j < c → aNum j ∈ N) ∧ mm = N.length - c)
    (N.length - 0) ⟨0, rfl, rfl, Nat.zero_le _, fun j h => absurd h (Nat.not_lt_zero _), rfl⟩ (fun mm ro2 ka2 ⟨c, e1, e2, hc, hj, hm⟩ => ?_)
  subst e1 e2
  have nf := num_few (i := c) (by omega)
  have nm : ∀ {E : XK}, EvD K (tOp (rAddU K) (tC (.str "a")) (tCB rStrI (tCons (tVar 6) tNil))) [some (.val (McD K m)), some (.val (McD K n)), some (.val (.lst (stD N))), v3, v4, v5, some (.val (.int (c : Int)))] [] (.val (.str (aNum c))) [] := fun {E} => ev_addS ev_str (ev_strI (ev_var rfl) (log_few (by omega))) (by
    have e : ("a" : Str).length = 1 := by decide +kernel
    rw [e]
    show 1 + (Str.ofString (toString ((c : Nat) : Int))).length ≤ 100000
    omega)
  refine ⟨decide (aNum c ∈ N), _, et_test (ev_inL (nm (E := E)) (ev_var rfl) .vl), fun hb => ?_, fun hb => ?_⟩
  · rw [decide_eq_true_eq] at hb
    have all : ∀ j, j < c + 1 → aNum j ∈ N := fun j h => by
      rcases Nat.lt_or_ge j c with g | g
      · exact hj j g
      · have : j = c := by omega
        subst this
        exact hb
    have := aNum_free (n := c + 1) (by omega) all
    exact g_asg (w := .val (.int ((c + 1 : Nat) : Int))) ((ev_addI (ev_var rfl) ev_int).to (by push_cast; rfl)) (g_jp ⟨N.length - (c + 1), by omega, c + 1, rfl, rfl, by omega, all, rfl⟩)
  · rw [decide_eq_false_iff_not] at hb
    exact g_ret hR ((ev_catL (ev_var rfl) (evn_lst (ds := [.str (aNum c)]) (ea1 (nm (E := E))) (show 1 ≤ 100000 by decide)).lst (by rw [stD_len]; show _ + 1 ≤ _; omega)).to (by rw [← stD_app]; rfl)) ⟨rfl, c, hc, rfl, hb⟩
end
def wdsD (ws : List (List Str)) : List D := ws.map fun w => D.tup (stD w)
def plD (m n : Mc) (ws : List (List Str)) : List D := ws.map fun w => p2D (st2 m n w)
def rwD : Option (List Str) → D
  | some w => .tup (stD w)
  | none => .non
/-- small enough for the search -/
structure LpOk (t u : Tr) (c : Nat) : Prop where
  f1 : Fits (mcT t 0)
  f2 : Fits (mcT u 0)
  n : ∀ p ∈ (mcT t 0).at_ ++ (mcT u 0).at_, p.2.length ≤ 100
  l : (mcT t 0).at_.length + (mcT u 0).at_.length ≤ 100
  pr : PrOk t u c
  big : (((mcT t 0).at_ ++ (mcT u 0).at_).flatMap (fun p => p.2)).length * (c + 1) + (c + 1) ≤ 90000
/-- the told word is short, of known names or a made one -/
def PaN (t u : Tr) (c : Nat) (r : Option (List Str)) : Prop := ∀ w, r = some w → w.length ≤ c ∧ ∀ x ∈ w, x ∈ namM (mcT t 0) ++ namM (mcT u 0) ∨ ∃ k, k ≤ 10000 ∧ x = aNum k
def ct_least_parting (K : PySem.W.Frag) : Ct := Ct3 fun a b e ka out => ∃ t u one c, a = .val (McD K (mcT t 0)) ∧ b = .val (McD K (mcT u 0)) ∧ e = .val (.bl one) ∧ LpOk t u c ∧ ka = [] ∧
  out = fun o k => k = [] ∧ ∃ r, o = .ret (rwD r) ∧ PaR t u one r ∧ PaN t u c r
section
variable {P : Program} {w : World} {K : PySem.W.Frag} {mg : Str → Option Value} {base : Heap}
theorem ok_least_parting (T : Tx K mg) (F_Machine_after : Fn P w K mg base 6 (He.ma K (He.ga K "Machine") "after") ["self", "places", "lane"] (ct_Machine_after K)) (F_Machine_started : Fn P w K mg base 6 (He.ma K (He.ga K "Machine") "started") ["self", "lane"] (ct_Machine_started K)) (F_Machine_is_done : Fn P w K mg base 4 (He.ma K (He.ga K "Machine") "is_done") ["self", "places"] (ct_Machine_is_done K)) (F_all_names : Fn P w K mg base 4 (He.ga K "all_names") ["one", "two"] (ct_all_names K)) : Fn P w K mg base 8 (He.ga K "least_parting") ["one", "two", "is_one_sided"] (ct_least_parting K) := by
  obtain ⟨fd, F⟩ := T.d_least_parting
  refine fn_ok F sc_least_parting (fun _ _ _ _ _ _ us hl => match us, hl with | [_, _, _], _ => rfl) ct3_len (fun cdv A outer s H E hr => ⟨_, (pss_cons (ps_if (PW.pt (pw_and (pt_cmpR (op_neP (by have := (hr).units; exact this)) (pe_fld (pv 0) rfl) (pe_fld (pv 1) rfl) (nomark _)) (pw_and1 (PW.pt (pw_or (pt_val (pe_fld (pv 0) rfl)) (pw_or1 (pt_not (pt_val (pv 2)))))))))
      (pss_one (ps_ret (pe_tup pa_nil)))
      pss_nil)
      (pss_cons (ps_set (i := 3) sc_least_parting.nd rfl (by first | exact Or.inl rfl | exact Or.inr rfl) (pe_call (F_all_names.up (by decide)).ok hr rfl T.g_all_names.1 T.g_all_names.2 (F_all_names.up (by decide)).bn .nil (pass_own rfl rfl rfl rfl) (pa_cons (pv 0) (pa_cons (pv 1) pa_nil))))
      (pss_cons (ps_setLc (i := 5) (te := (tTup (tCons (tVar 4) tNil))) (tt := tYes) (own := [("name", 4)]) rfl sc_least_parting.nd rfl rfl rfl (pi_seq (pv 3)) (blk_ok ["one", "two", "is_one_sided", "names", "name", "words", "places", "known", "at", "pair", "done"] (defScope s_least_parting) rfl rfl (by decide +kernel)) (fun _ _ _ _ _ => (pg_name (i := 4) sc_least_parting.nd rfl (by first | exact Or.inl rfl | exact Or.inr rfl))) (fun _ _ _ _ _ => pts_nil) (fun _ _ _ _ _ => (pe_tup (pa_cons (pv 4) pa_nil))))
      (pss_cons (ps_setLc (i := 6) (te := (tTup (tCons (tMeth (He.ga K "Machine") "started" (spC K (ct_Machine_started K)) [] (fun _ _ _ => False) (tVar 0) (tCons (tVar 4) tNil)) (tCons (tMeth (He.ga K "Machine") "started" (spC K (ct_Machine_started K)) [] (fun _ _ _ => False) (tVar 1) (tCons (tVar 4) tNil)) tNil)))) (tt := tYes) (own := [("name", 4)]) rfl sc_least_parting.nd rfl rfl rfl (pi_seq (pv 3)) (blk_ok ["one", "two", "is_one_sided", "names", "name", "words", "places", "known", "at", "pair", "done"] (defScope s_least_parting) rfl rfl (by decide +kernel)) (fun _ _ _ _ _ => (pg_name (i := 4) sc_least_parting.nd rfl (by first | exact Or.inl rfl | exact Or.inr rfl))) (fun _ _ _ _ _ => pts_nil) (fun _ _ _ _ _ => (pe_tup (pa_cons (pe_meth (pv 0) T.cl_Machine T.me_Machine_started (F_Machine_started.up (by decide)).ok hr (F_Machine_started.up (by decide)).bn .nil passes_no (pa_cons (pv 4) pa_nil)) (pa_cons (pe_meth (pv 1) T.cl_Machine T.me_Machine_started (F_Machine_started.up (by decide)).ok hr (F_Machine_started.up (by decide)).bn .nil passes_no (pa_cons (pv 4) pa_nil)) pa_nil)))))
      (pss_cons (ps_set (i := 7) sc_least_parting.nd rfl (by first | exact Or.inl rfl | exact Or.inr rfl) pe_nnew)
      (pss_cons (ps_set (i := 8) sc_least_parting.nd rfl (by first | exact Or.inl rfl | exact Or.inr rfl) pe_int)
      (pss_cons (ps_while (passes_of rfl) (pt_cmpR op_lt (pv 8) (pe_callB call_lenU rfl T.n_len (by decide +kernel) (pa_cons (pv 5) pa_nil)) (nomark _)) (pss_cons (ps_set (i := 9) sc_least_parting.nd rfl (by first | exact Or.inl rfl | exact Or.inr rfl) (pe_ix ix_seq (pv 6) (pv 8) fun _ _ => rfl))
      (pss_cons (ps_if (pt_cmp (pc_nnot (hu16 hr) (pv 9) (pv 7)) (by with_unfolding_all rfl))
      (pss_cons (ps_nput (hu16 hr) (pv 7) (pv 9) pe_bl rfl)
      (pss_cons (ps_set (i := 10) sc_least_parting.nd rfl (by first | exact Or.inl rfl | exact Or.inr rfl) (pe_meth (pv 0) T.cl_Machine T.me_Machine_is_done (F_Machine_is_done.up (by decide)).ok hr (F_Machine_is_done.up (by decide)).bn .nil (pass_own rfl rfl rfl rfl) (pa_cons (pe_ix ix_seq (pv 9) pe_int fun _ _ => rfl) pa_nil)))
      (pss_cons (ps_if (PW.pt (pw_and (pt_cmpR (op_neP (by have := (hr).units; exact this)) (pv 10) (pe_meth (pv 1) T.cl_Machine T.me_Machine_is_done (F_Machine_is_done.up (by decide)).ok hr (F_Machine_is_done.up (by decide)).bn .nil (pass_own rfl rfl rfl rfl) (pa_cons (pe_ix ix_seq (pv 9) pe_int fun _ _ => rfl) pa_nil)) (nomark _)) (pw_and1 (PW.pt (pw_or (pt_val (pv 10)) (pw_or1 (pt_not (pt_val (pv 2)))))))))
      (pss_one (ps_ret (pe_ix ix_seq (pv 5) (pv 8) fun _ _ => rfl)))
      pss_nil)
      (pss_one (ps_for (passes_of rfl) rfl (pi_seq (pv 3)) (pg_name (i := 4) sc_least_parting.nd rfl (by first | exact Or.inl rfl | exact Or.inr rfl)) (pss_cons (ps_expr (pe_bm PySem.F.plainAttrs_list PySem.F.slot_list_append PySem.F.type_list_append mt_append (pv 5) (pa_cons (pe_op op_addU (pe_ix ix_seq (pv 5) (pv 8) fun _ _ => rfl) (pe_tup (pa_cons (pv 4) pa_nil))) pa_nil)))
      (pss_one (ps_expr (pe_bm PySem.F.plainAttrs_list PySem.F.slot_list_append PySem.F.type_list_append mt_append (pv 6) (pa_cons (pe_tup (pa_cons (pe_meth (pv 0) T.cl_Machine T.me_Machine_after (F_Machine_after.up (by decide)).ok hr (F_Machine_after.up (by decide)).bn .nil (pass_own rfl rfl rfl rfl) (pa_cons (pe_ix ix_seq (pv 9) pe_int fun _ _ => rfl) (pa_cons (pv 4) pa_nil))) (pa_cons (pe_meth (pv 1) T.cl_Machine T.me_Machine_after (F_Machine_after.up (by decide)).ok hr (F_Machine_after.up (by decide)).bn .nil (pass_own rfl rfl rfl rfl) (pa_cons (pe_ix ix_seq (pv 9) pe_int fun _ _ => rfl) (pa_cons (pv 4) pa_nil))) pa_nil))) pa_nil))))))))))
      pss_nil)
      (pss_one (ps_aug (i := 8) sc_least_parting.nd rfl (by first | exact Or.inl rfl | exact Or.inr rfl) pe_int ip_add)))))
      (pss_one (ps_ret pe_non))))))))), fun ws ka out B F0 Q hC hR hX => ?_⟩)
  obtain ⟨s1, s2, s3, rfl, t, u, one, pw, rfl, rfl, rfl, lp, rfl, rfl⟩ := hC
  have cM := T.cl_Machine
  have f1 := lp.f1
  have f2 := lp.f2
  have r1 := (mcT_r t 0).fi
  have r2 := (mcT_r u 0).fi
  refine q_when (b := dfB (mcT t 0).op (mcT u 0).op one) ((et_and (et_test (ev_ne (d := .bl (mcT t 0).op) (e := .bl (mcT u 0).op) (ev_fld (ev_var rfl) .v cM T.na_Machine_is_optional rfl) (ev_fld (ev_var rfl) .v cM T.na_Machine_is_optional rfl) .v .v rfl rfl)) fun _ => et_or (et_B (ev_fld (d := .bl (mcT t 0).op) (ev_var rfl) .v cM T.na_Machine_is_optional rfl)) fun _ => et_not (et_B (ev_var rfl))).to (by cases (mcT t 0).op <;> cases (mcT u 0).op <;> cases one <;> rfl)) (fun hb => ?_) (fun hd0 => ?_)
  · exact g_ret hR (d := .tup []) (ev_tup (ds := []) ea_nil (show 0 ≤ 100000 by decide)) ⟨rfl, some [], rfl, pa_empty hb, fun w h => by cases h; exact ⟨Nat.zero_le _, fun x h => nomatch h⟩⟩
  refine q_call [] (k1 := []) (ea2 (ev_var rfl) (ev_var rfl)) ⟨_, _, rfl, mcT t 0, mcT u 0, rfl, rfl, lp.l, lp.n, rfl, rfl⟩ (fun o k ⟨_, f, _, e, _⟩ => ⟨_, e⟩) ?_
  rintro _ _ ⟨rfl, nf, hnf, e, hf⟩
  cases e
  generalize hfe : aNum nf = f at *
  have hmem : ∀ x, x ∈ anL ((mcT t 0).at_ ++ (mcT u 0).at_) ↔ x ∈ namM (mcT t 0) ++ namM (mcT u 0) := fun x => by
    rw [an_mem]
    unfold namM
    rw [List.mem_append, List.mem_flatMap, List.mem_flatMap]
    constructor
    · rintro ⟨p, hp, h⟩
      rcases List.mem_append.mp hp with hp | hp
      · exact .inl ⟨p, hp, h⟩
      · exact .inr ⟨p, hp, h⟩
    · rintro (⟨p, hp, h⟩ | ⟨p, hp, h⟩)
      · exact ⟨p, List.mem_append_left _ hp, h⟩
      · exact ⟨p, List.mem_append_right _ hp, h⟩
  have hl := an_len ((mcT t 0).at_ ++ (mcT u 0).at_)
  have big := lp.big
  generalize (((mcT t 0).at_ ++ (mcT u 0).at_).flatMap (fun p => p.2)).length = S at *
  have hNl : (anL ((mcT t 0).at_ ++ (mcT u 0).at_) ++ [f]).length ≤ S + 1 := by
    rw [List.length_append, List.length_singleton]
    omega
  have hNm : ∀ x ∈ anL ((mcT t 0).at_ ++ (mcT u 0).at_) ++ [f], x ∈ namM (mcT t 0) ++ namM (mcT u 0) ∨ ∃ k, k ≤ 10000 ∧ x = aNum k := fun x hx => by
    rcases List.mem_append.mp hx with hx | hx
    · exact .inl ((hmem x).mp hx)
    · exact .inr ⟨nf, hnf, by rw [List.mem_singleton.mp hx, hfe]⟩
  have h1 : ∀ x ∈ namM (mcT t 0) ++ namM (mcT u 0), x ∈ anL ((mcT t 0).at_ ++ (mcT u 0).at_) ++ [f] := fun x hx => List.mem_append_left _ ((hmem x).mpr hx)
  have hfN : f ∈ anL ((mcT t 0).at_ ++ (mcT u 0).at_) ++ [f] := List.mem_append_right _ (List.mem_singleton.mpr rfl)
  have h2 : f ∉ namM (mcT t 0) ++ namM (mcT u 0) := fun z => hf ((hmem f).mpr z)
  generalize anL ((mcT t 0).at_ ++ (mcT u 0).at_) ++ [f] = N at *
  clear hmem hl hf
  have mR := mcT_r t 0
  obtain ⟨PA, allL, allM⟩ := lp.pr
  have rl1 : ∀ w, (runM (mcT t 0) w).length ≤ 1000 := fun w => by
    cases w with
    | nil => exact Nat.zero_le _
    | cons x r => exact run_len f1 r _ (start_len f1)
  have rl2 : ∀ w, (runM (mcT u 0) w).length ≤ 1000 := fun w => by
    cases w with
    | nil => exact Nat.zero_le _
    | cons x r => exact run_len f2 r _ (start_len f2)
  have pf : PaR t u one = PaR t u one := rfl
  have bigN : N.length * (pw + 1) ≤ 90000 := Nat.le_trans (Nat.mul_le_mul_right _ hNl) (by rw [Nat.add_mul, Nat.one_mul]; exact big)
  have hN0 : N.length ≤ 90000 := Nat.le_trans (Nat.le_mul_of_pos_right _ (Nat.succ_pos _)) bigN
  have pwl : pw ≤ 90000 := by omega
  have fin := fun at_ ks qs c (b : WIn (mcT t 0) (mcT u 0) N at_ ks qs) => pa_found (c := c) b hd0 h1 hfN h2
  have nam : ∀ w : List Str, w.length ≤ pw → (∀ x ∈ w, x ∈ N) → PaN t u pw (some w) := fun w hl hx v hv => by
    cases hv
    exact ⟨hl, fun x h => hNm x (hx x h)⟩
  have nan : PaN t u pw none := fun w h => nomatch h
  have non := fun at_ ks qs (b : WIn (mcT t 0) (mcT u 0) N at_ ks qs) => pa_none b hd0 h1 hfN h2
  have wst := WIn.start (mcT t 0) (mcT u 0) N
  have sx : ∀ x : Str, runM (mcT t 0) [x] = startM (mcT t 0) x ∧ runM (mcT u 0) [x] = startM (mcT u 0) x := fun x => ⟨rfl, rfl⟩
  have r1' : ∀ a ∈ (mcT t 0).fi, a < (mcT t 0).at_.length := fun a ha => by have := (r1 a ha).2; omega
  have r2' : ∀ a ∈ (mcT u 0).fi, a < (mcT u 0).at_.length := fun a ha => by have := (r2 a ha).2; omega
  clear r1 r2 mR pf
  generalize hPP : PaR t u one = PP at *
  generalize hPN : PaN t u pw = PN at *
  generalize hm1 : mcT t 0 = m1 at *
  generalize hm2 : mcT u 0 = m2 at *
  refine q_asgN (n := .lst (wdsD (N.map fun x => [x]))) (evn_filt_to (evn_map (xs := N) (g := fun s => W.val (.str s)) (f := fun s => D.tup [.str s]) (ei_strs (ev_var rfl)) (by decide) (by omega) ⟨trivial, fun _ => trivial⟩ (fun x _ => ev_tup (ds := [.str x]) (ea1 (ev_var rfl)) (show 1 ≤ 100000 by decide))) (by unfold wdsD; rw [List.map_map]; rfl)) (fun q => ?_)
  refine q_asgN (n := .lst (plD m1 m2 (N.map fun x => [x]))) (evn_filt_to (evn_map (xs := N) (g := fun s => W.val (.str s)) (f := fun s => D.tup [.tup (nmD (startM m1 s)), .tup (nmD (startM m2 s))]) (ei_strs (ev_var rfl)) (by decide) (by omega) ⟨trivial, fun _ => trivial⟩ (fun x _ => ev_tup (ds := [.tup (nmD (startM m1 x)), .tup (nmD (startM m2 x))]) (ea2 (ev_methP (ev_var rfl) .v rfl (ea1 (ev_var rfl)) ⟨_, _, rfl, m1, x, rfl, rfl, f1, r1', rfl, rfl⟩) (ev_methP (ev_var rfl) .v rfl (ea1 (ev_var rfl)) ⟨_, _, rfl, m2, x, rfl, rfl, f2, r2', rfl, rfl⟩)) (show 2 ≤ 100000 by decide))) (by unfold plD; rw [List.map_map]; rfl)) (fun r => ?_)
  refine q_asgN evn_nnew (fun p => ?_)
  refine q_asg (ev_int (i := 0)) ?_
  refine q_while (fun mm ro ka => ∃ (i : Nat) (ks : List P2) (qs : List (List Str)) (v4 v9 v10 : Option W), ro = [some (.val (McD K m1)), some (.val (McD K m2)), some (.val (.bl one)), some (.val (.lst (stD N))), v4, some (.val (.adr q)), some (.val (.adr r)), some (.val (.adr p)), some (.val (.int (i : Int))), v9, v10] ∧
      ka = [(q, .lst (wdsD qs)), (r, .lst (plD m1 m2 qs)), (p, .din w (ksD ks))] ∧ WIn m1 m2 N i ks qs ∧ (∀ k ∈ ks, ¬ doneP m1 m2 one k = true) ∧ (∀ k ∈ ks, k ∈ PA) ∧ mm = 90000 - i)
    (90000 - 0) ⟨0, [], _, none, none, none, rfl, rfl, wst, (fun k h => nomatch h), (fun k h => nomatch h), rfl⟩ (fun mm ro2 ka2 ⟨i, ks, qs, v4, v9, v10, e1, e2, b, no, inA, hm⟩ => ?_)
  subst e1 e2
  have kl := nd_sub b.nd inA
  have ql := b.len
  have qb : qs.length ≤ 90000 := by
    rw [ql]
    exact Nat.le_trans (Nat.mul_le_mul_left _ (by omega)) bigN
  have wl : ∀ qs : List (List Str), (wdsD qs).length = qs.length := fun qs => List.length_map ..
  have pl : ∀ qs : List (List Str), (plD m1 m2 qs).length = qs.length := fun qs => List.length_map ..
  refine ⟨decide ((i : Int) < (((wdsD qs).length : Nat) : Int)), _, et_test (ev_lt (ev_var rfl) (ev_len (ev_var rfl) (.ce 0 rfl))), fun hb => ?_, fun hb => ?_⟩
  rotate_left
  · rw [wl, decide_eq_false_iff_not] at hb
    exact g_ret hR (d := .non) (ev_non.less (List.nil_sublist _)) ⟨rfl, none, rfl, non i ks qs b no (by omega), nan⟩
  rw [wl, decide_eq_true_eq] at hb
  have hlt : i < qs.length := by omega
  obtain ⟨c, hc⟩ : ∃ c, qs[i]? = some c := ⟨_, List.getElem?_eq_getElem hlt⟩
  have hcm := List.mem_of_getElem? hc
  have hcl := b.ll c hcm
  have hne := b.ne c hcm
  have hcA := allM c hne
  have atw : ∀ {qs : List (List Str)}, qs[i]? = some c → atI (wdsD qs) (i : Int) = some (.tup (stD c)) := fun {qs} h => atI_nat (by unfold wdsD; rw [List.getElem?_map, h]; rfl)
  have atp : atI (plD m1 m2 qs) (i : Int) = some (p2D (st2 m1 m2 c)) := atI_nat (by unfold plD; rw [List.getElem?_map, hc]; rfl)
  refine q_asg (w := .val (nkD (p2K (st2 m1 m2 c)))) ((ev_ixV (ev_var rfl) (ev_var rfl) (.ce 1 rfl) atp).to (by rw [p2K_D])) ?_
  have pr : ∀ {ro : Ro} {k : Cells}, ro[9]? = some (some (.val (nkD (p2K (st2 m1 m2 c))))) → EvD K (tVar 9) ro k (.val (.tup [.tup (nmD (runM m1 c)), .tup (nmD (runM m2 c))])) k := fun {ro k} h => (ev_var h).to (by rw [p2K_D]; rfl)
  refine q_whenI (b := !hasT (ksD ks) (p2K (st2 m1 m2 c))) (fun ro ka => ∃ (ks : List P2) (qs : List (List Str)) (v4 v9 v10 : Option W), ro = [some (.val (McD K m1)), some (.val (McD K m2)), some (.val (.bl one)), some (.val (.lst (stD N))), v4, some (.val (.adr q)), some (.val (.adr r)), some (.val (.adr p)), some (.val (.int (i : Int))), v9, v10] ∧
      ka = [(q, .lst (wdsD qs)), (r, .lst (plD m1 m2 qs)), (p, .din w (ksD ks))] ∧ WIn m1 m2 N (i + 1) ks qs ∧ (∀ k ∈ ks, ¬ doneP m1 m2 one k = true) ∧ (∀ k ∈ ks, k ∈ PA))
    ((et_test (ev_nni (ks := [nmK (runM m1 c), nmK (runM m2 c)]) (ev_var rfl) (ev_var rfl) (.ce 2 rfl) (p2K_dep (st2 m1 m2 c)))).to (by rw [isSome_has]; rfl)) (fun hb2 nx hnx => ?_) (fun hb2 => ?_) (fun ro2 ka2 ⟨ks, qs, v4, v9, v10, e1, e2, b, no, inA⟩ => ?_)
  rotate_left
  · rw [Bool.not_eq_false', ksD_has, decide_eq_true_eq] at hb2
    exact ⟨ks, qs, _, _, _, rfl, rfl, b.again hc hb2, no, inA⟩
  · subst e1 e2
    exact g_augI (z := ((i + 1 : Nat) : Int)) rfl ev_int (fun H Q q => ⟨_, _, rfl, rfl, by push_cast at q ⊢; exact q⟩) (g_jp ⟨90000 - (i + 1), by omega, i + 1, ks, qs, _, _, _, rfl, rfl, b, no, inA, rfl⟩)
  rw [Bool.not_eq_true', ksD_has, decide_eq_false_iff_not] at hb2
  have inA2 : ∀ k ∈ ks ++ [st2 m1 m2 c], k ∈ PA := fun k hk => by
    rcases List.mem_append.mp hk with hk | hk
    · exact inA k hk
    · rw [List.mem_singleton.mp hk]
      exact hcA
  have b2 := b.new hc hb2
  have kl2 := nd_sub b2.nd inA2
  have qb2 := b2.len
  have qb3 : (qs ++ N.map fun x => c ++ [x]).length ≤ 90000 := by
    rw [qb2]
    exact Nat.le_trans (Nat.mul_le_mul_left _ (by omega)) bigN
  rw [List.length_append, List.length_map] at qb3
  have ksl : (ksD ks).length = ks.length := List.length_map ..
  refine q_nput (j := 2) (ks := [nmK (runM m1 c), nmK (runM m2 c)]) (d := .bl true) ev_bl (ev_var rfl) (ev_var rfl) rfl (p2K_dep (st2 m1 m2 c)) (by rw [ksl]; rw [List.length_append] at kl2; omega) ?_
  rw [show putT (ksD ks) (.tup [nmK (runM m1 c), nmK (runM m2 c)]) (D.bl true) = ksD (ks ++ [st2 m1 m2 c]) from ksD_put hb2]
  refine q_asg (w := .val (.bl (doneM m1 (runM m1 c)))) (ev_methP (ev_var rfl) .v rfl (ea1 (ev_ixV (d := .tup (nmD (runM m1 c))) (pr rfl) ev_int .vt rfl)) ⟨_, _, rfl, m1, _, rfl, rfl, rl1 c, rfl, rfl⟩) ?_
  refine q_when (b := doneP m1 m2 one (st2 m1 m2 c)) ((et_and (et_test (ev_ne (d := .bl (doneM m1 (runM m1 c))) (e := .bl (doneM m2 (runM m2 c))) (ev_var rfl) (ev_methP (ev_var rfl) .v rfl (ea1 (ev_ixV (d := .tup (nmD (runM m2 c))) (pr rfl) ev_int .vt rfl)) ⟨_, _, rfl, m2, _, rfl, rfl, rl2 c, rfl, rfl⟩) .v .v rfl rfl)) fun _ => et_or (et_B (ev_var rfl)) fun _ => et_not (et_B (ev_var rfl))).to (by
    show _ = dfB (doneM m1 (runM m1 c)) (doneM m2 (runM m2 c)) one
    cases doneM m1 (runM m1 c) <;> cases doneM m2 (runM m2 c) <;> cases one <;> rfl)) (fun hd => ?_) (fun hd => ?_)
  · exact g_ret hR (d := .tup (stD c)) ((ev_ixV (ev_var rfl) (ev_var rfl) (.ce 0 rfl) (atw hc)).less (List.nil_sublist _)) ⟨rfl, some c, rfl, fin i ks qs c b no hc hd, nam c (by rw [List.length_append, List.length_singleton] at kl2; omega) (b.lt c hcm)⟩
  refine g_forn (ei_strs (ss := N) (ev_var rfl)) (fun j ro ka => ∃ (v4 v10 : Option W), ro = [some (.val (McD K m1)), some (.val (McD K m2)), some (.val (.bl one)), some (.val (.lst (stD N))), v4, some (.val (.adr q)), some (.val (.adr r)), some (.val (.adr p)), some (.val (.int (i : Int))), some (.val (nkD (p2K (st2 m1 m2 c)))), v10] ∧
      ka = [(q, .lst (wdsD (qs ++ (N.take j).map fun x => c ++ [x]))), (r, .lst (plD m1 m2 (qs ++ (N.take j).map fun x => c ++ [x]))), (p, .din w (ksD (ks ++ [st2 m1 m2 c])))])
    ⟨_, _, rfl, by rw [List.take_zero, List.map_nil, List.append_nil]; rfl⟩ (fun j ro ka _ => trivial) (fun j x ro2 ka2 ta2 hx ⟨v4, v10, e1, e2⟩ => ?_) (fun ro2 ka2 ta2 ⟨v4, v10, e1, e2⟩ hta => ?_)
  · subst e1 e2
    rw [List.getElem?_map] at hx
    obtain ⟨x, hxx, rfl⟩ := Option.map_eq_some_iff.mp hx
    have tl : ((N.take j).map fun x => c ++ [x]).length ≤ N.length := by
      rw [List.length_map]
      exact List.length_take_le' ..
    have jl : j < N.length := (List.getElem?_eq_some_iff.mp hxx).1
    have tl2 : ((N.take j).map fun x => c ++ [x]).length = j := by
      rw [List.length_map, List.length_take]
      omega
    have hc2 : (qs ++ (N.take j).map fun x => c ++ [x])[i]? = some c := by rw [List.getElem?_append_left hlt]; exact hc
    refine q_app (j0 := 0) (j := 0) (d := .tup (stD (c ++ [x]))) (ev_var rfl) rfl ((ev_catT (ev_ixV (ev_var rfl) (ev_var rfl) (.ce 0 rfl) (atw hc2)) (ev_tup (ds := [.str x]) (ea1 (ev_var rfl)) (show 1 ≤ 100000 by decide)) (by rw [stD_len]; show _ + 1 ≤ _; rw [List.length_append] at kl2; omega)).to (by rw [← stD_app]; rfl)) rfl (by rw [wl, List.length_append]; omega) ?_
    refine g_app (j0 := 1) (j := 1) (d := p2D (nx2 m1 m2 (st2 m1 m2 c) x)) (ev_var rfl) rfl ((ev_tup (ds := [.tup (nmD (afterM m1 (runM m1 c) x)), .tup (nmD (afterM m2 (runM m2 c) x))]) (ea2 (ev_methP (ev_var rfl) .v rfl (ea2 (ev_ixV (d := .tup (nmD (runM m1 c))) (pr rfl) ev_int .vt rfl) (ev_var rfl)) ⟨_, _, _, rfl, m1, _, x, rfl, rfl, rfl, f1, rl1 c, rfl, rfl⟩) (ev_methP (ev_var rfl) .v rfl (ea2 (ev_ixV (d := .tup (nmD (runM m2 c))) (pr rfl) ev_int .vt rfl) (ev_var rfl)) ⟨_, _, _, rfl, m2, _, x, rfl, rfl, rfl, f2, rl2 c, rfl, rfl⟩)) (show 2 ≤ 100000 by decide))) rfl (by rw [pl, List.length_append]; omega) (g_jp ⟨_, _, rfl, ?_⟩)
    have e1 : wdsD (qs ++ (N.take (j + 1)).map fun x => c ++ [x]) = wdsD (qs ++ (N.take j).map fun x => c ++ [x]) ++ [.tup (stD (c ++ [x]))] := by
      unfold wdsD
      rw [take_succ_some hxx, List.map_append (l₁ := N.take j), ← List.append_assoc, List.map_append]
      rfl
    have e2 : plD m1 m2 (qs ++ (N.take (j + 1)).map fun x => c ++ [x]) = plD m1 m2 (qs ++ (N.take j).map fun x => c ++ [x]) ++ [p2D (nx2 m1 m2 (st2 m1 m2 c) x)] := by
      unfold plD
      rw [take_succ_some hxx, List.map_append (l₁ := N.take j), ← List.append_assoc, List.map_append, ← st2_snoc hne]
      rfl
    rw [e1, e2]
    rfl
  · subst e1 e2
    rw [List.length_map, List.take_length]
    refine (hnx _ _ ⟨ks ++ [st2 m1 m2 c], _, _, _, _, rfl, rfl, b2, fun k hk => ?_, inA2⟩).up hta
    rcases List.mem_append.mp hk with hk | hk
    · exact no k hk
    · rw [List.mem_singleton.mp hk, hd]
      exact Bool.false_ne_true
end
def ct_joined (K : PySem.W.Frag) : Ct := Ct3 fun k a b ka out => ∃ d e f, k = .val d ∧ a = .val e ∧ b = .val f ∧ ka = [] ∧ out = Rt (.tup [d, e, f]) []
section
variable {P : Program} {w : World} {K : PySem.W.Frag} {mg : Str → Option Value} {base : Heap}
theorem ok_joined (T : Tx K mg) : Fn P w K mg base 4 (He.ga K "joined") ["kind", "one", "two"] (ct_joined K) := by
  obtain ⟨fd, F⟩ := T.d_joined
  refine fn_ok F sc_joined (fun _ _ _ _ _ _ us hl => match us, hl with | [_, _, _], _ => rfl) ct3_len (fun cdv A outer s H E hr => ⟨_, (pss_one (ps_ret (pe_tup (pa_cons (pv 0) (pa_cons (pv 1) (pa_cons (pv 2) pa_nil)))))), fun ws ka out B F0 Q hC hR hX => ?_⟩)
  obtain ⟨k, a, b, rfl, d, e, f, rfl, rfl, rfl, rfl, rfl⟩ := hC
  exact g_ret hR (ev_tup (ds := [d, e, f]) (ea3 (ev_var rfl) (ev_var rfl) (ev_var rfl)) (Nat.le_of_ble_eq_true rfl)) ⟨rfl, rfl⟩
end
/-- a pattern -/
abbrev PaD (K : PySem.W.Frag) (d : D) : D := .ins (He.ga K "Pattern") [("tree", d)]
def ct_Pattern___init (K : PySem.W.Frag) : Ct := Ct2 fun s a ka out => ∃ p d, s = .val (.adr p) ∧ a = .val d ∧ ka = [(p, .ins (He.ga K "Pattern") [])] ∧ out = Rt .non [(p, .ins (He.ga K "Pattern") [("tree", d)])]
/-- Pattern(tree) -/
theorem ev_pat {K : PySem.W.Frag} {ro : Ro} {ka : Cells} {te : TE} {d : D} {E : XK} (h : EvD K te ro ka (.val d) []) : EvD K (tMake (He.ga K "Pattern") (spC K (ct_Pattern___init K)) [] E (tCons te tNil)) ro ka (.val (PaD K d)) [] :=
  (evn_make (ea1 h) fun a => ⟨_, ⟨_, _, rfl, a, d, rfl, rfl, rfl, rfl⟩, fun _ _ z => z⟩).ins
section
variable {P : Program} {w : World} {K : PySem.W.Frag} {mg : Str → Option Value} {base : Heap}
theorem ok_Pattern___init (T : Tx K mg) : Fn P w K mg base 4 (He.ma K (He.ga K "Pattern") "__init__") ["self", "tree"] (ct_Pattern___init K) := by
  obtain ⟨fd, F⟩ := T.d_Pattern___init
  refine fn_ok F sc_Pattern___init (fun _ _ _ _ _ _ us hl => match us, hl with | [_, _], _ => rfl) ct2_len (fun cdv A outer s H E hr => ⟨_, (pss_one (ps_fld (pv 0) (pv 1) rfl)), fun ws ka out B F0 Q hC hR hX => ?_⟩)
  obtain ⟨s1, a, rfl, p, d, rfl, rfl, rfl, rfl⟩ := hC
  exact g_fld (j := 0) (a := p) (fs := []) (d := d) (ev_var rfl) (ev_var rfl) rfl T.cl_Pattern T.na_Pattern_tree (show 0 < 900 by decide) (g_end hR ⟨rfl, rfl⟩)
end
def strOf : D → Str
  | .str s => s
  | _ => ""
theorem all_nm : ∀ {ds : List D}, ds.all isNmD = true → ds = stD (ds.map strOf)
  | [], _ => rfl
  | d :: ds, h => by
    rw [List.all_cons, Bool.and_eq_true] at h
    have ih := all_nm h.2
    cases d with
    | str s => exact congrArg (D.str s :: ·) ih
    | _ => cases h.1
def ctB (t : Tr) : D → Bool
  | .tup ds => ds.all isNmD && accM (mcT t 0) (ds.map strOf)
  | .lst ds => ds.all isNmD && accM (mcT t 0) (ds.map strOf)
  | _ => false
theorem mc_fi_lt (t : Tr) : ∀ a ∈ (mcT t 0).fi, a < (mcT t 0).at_.length := fun a h => by
  have := ((mcT_r t 0).fi a h).2
  omega
def ct_Pattern___contains (K : PySem.W.Frag) : Ct := Ct2 fun s a ka out => ∃ (t : Tr) (d : D), s = .val (PaD K (t.d false)) ∧ a = .val d ∧ t.dep < 8 ∧ t.sm ∧ anOk d ∧ ka = [] ∧ out = Rt (.bl (ctB t d)) []
section
variable {P : Program} {w : World} {K : PySem.W.Frag} {mg : Str → Option Value} {base : Heap}
theorem ok_Pattern___contains (T : Tx K mg) (F_are_names : Fn P w K mg base 6 (He.ga K "are_names") ["things"] (ct_are_names K)) (F_made_machine : Fn P w K mg base 24 (He.ga K "made_machine") ["tree"] (ct_made_machine K)) (F_accepts : Fn P w K mg base 8 (He.ga K "accepts") ["machine", "lanes"] (ct_accepts K)) : Fn P w K mg base 26 (He.ma K (He.ga K "Pattern") "__contains__") ["self", "lanes"] (ct_Pattern___contains K) := by
  obtain ⟨fd, F⟩ := T.d_Pattern___contains
  refine fn_ok F sc_Pattern___contains (fun _ _ _ _ _ _ us hl => match us, hl with | [_, _], _ => rfl) ct2_len (fun cdv A outer s H E hr => ⟨_, (pss_one (ps_ret (pe_and (pe_call (F_are_names.up (by decide)).ok hr rfl T.g_are_names.1 T.g_are_names.2 (F_are_names.up (by decide)).bn .nil (pass_own rfl rfl rfl rfl) (pa_cons (pv 1) pa_nil)) (pe_one (pe_call (F_accepts.up (by decide)).ok hr rfl T.g_accepts.1 T.g_accepts.2 (F_accepts.up (by decide)).bn .nil (pass_own rfl rfl rfl rfl) (pa_cons (pe_call (F_made_machine.up (by decide)).ok hr rfl T.g_made_machine.1 T.g_made_machine.2 (F_made_machine.up (by decide)).bn .nil (pass_own rfl rfl rfl rfl) (pa_cons (pe_fld (pv 0) rfl) pa_nil)) (pa_cons (pv 1) pa_nil))))))), fun ws ka out B F0 Q hC hR hX => ?_⟩)
  obtain ⟨s1, a, rfl, t, d, rfl, rfl, hd, hs, ho, rfl, rfl⟩ := hC
  cases d with
  | non => exact g_ret hR (ev_andV0 ((ev_callP (ea1 (ev_var rfl)) ⟨_, rfl, _, rfl, ho, rfl, rfl⟩).to (w' := .val (.bl false)) (congrArg (fun z => W.val (.bl z)) (rfl)))) ⟨congrArg (fun z => Out.ret (.bl z)) (rfl), rfl⟩
  | str s => exact g_ret hR (ev_andV0 ((ev_callP (ea1 (ev_var rfl)) ⟨_, rfl, _, rfl, ho, rfl, rfl⟩).to (w' := .val (.bl false)) (congrArg (fun z => W.val (.bl z)) (rfl)))) ⟨congrArg (fun z => Out.ret (.bl z)) (rfl), rfl⟩
  | int s => exact g_ret hR (ev_andV0 ((ev_callP (ea1 (ev_var rfl)) ⟨_, rfl, _, rfl, ho, rfl, rfl⟩).to (w' := .val (.bl false)) (congrArg (fun z => W.val (.bl z)) (rfl)))) ⟨congrArg (fun z => Out.ret (.bl z)) (rfl), rfl⟩
  | dic s => exact g_ret hR (ev_andV0 ((ev_callP (ea1 (ev_var rfl)) ⟨_, rfl, _, rfl, ho, rfl, rfl⟩).to (w' := .val (.bl false)) (congrArg (fun z => W.val (.bl z)) (rfl)))) ⟨congrArg (fun z => Out.ret (.bl z)) (rfl), rfl⟩
  | tup ds =>
    cases ha : ds.all isNmD with
    | false => exact g_ret hR (ev_andV0 ((ev_callP (ea1 (ev_var rfl)) ⟨_, rfl, _, rfl, ho, rfl, rfl⟩).to (w' := .val (.bl false)) (congrArg (fun z => W.val (.bl z)) (ha)))) ⟨congrArg (fun z => Out.ret (.bl z)) (show false = (ds.all isNmD && _) by rw [ha]; rfl), rfl⟩
    | true => exact g_ret hR (ev_andV1 ((ev_callP (ea1 (ev_var rfl)) ⟨_, rfl, _, rfl, ho, rfl, rfl⟩).to (w' := .val (.bl true)) (congrArg (fun z => W.val (.bl z)) ha)) (ev_callP (d := .bl (accM (mcT t 0) (ds.map strOf))) (ea2 (ev_callP (ea1 (ev_fld (ev_var rfl) .v T.cl_Pattern T.na_Pattern_tree rfl)) ⟨_, rfl, t, rfl, hd, hs, rfl, rfl⟩) (ev_var rfl)) ⟨_, _, rfl, mcT t 0, ds.map strOf, rfl, .inl (congrArg (fun z => W.val (.tup z)) (all_nm ha)), hs.fits 0, mc_fi_lt t, by rw [List.length_map]; exact ho.1, rfl, rfl⟩)) ⟨by show Out.ret _ = Out.ret (.bl (ds.all isNmD && _)); rw [ha]; rfl, rfl⟩
  | lst ds =>
    cases ha : ds.all isNmD with
    | false => exact g_ret hR (ev_andV0 ((ev_callP (ea1 (ev_var rfl)) ⟨_, rfl, _, rfl, ho, rfl, rfl⟩).to (w' := .val (.bl false)) (congrArg (fun z => W.val (.bl z)) (ha)))) ⟨congrArg (fun z => Out.ret (.bl z)) (show false = (ds.all isNmD && _) by rw [ha]; rfl), rfl⟩
    | true => exact g_ret hR (ev_andV1 ((ev_callP (ea1 (ev_var rfl)) ⟨_, rfl, _, rfl, ho, rfl, rfl⟩).to (w' := .val (.bl true)) (congrArg (fun z => W.val (.bl z)) ha)) (ev_callP (d := .bl (accM (mcT t 0) (ds.map strOf))) (ea2 (ev_callP (ea1 (ev_fld (ev_var rfl) .v T.cl_Pattern T.na_Pattern_tree rfl)) ⟨_, rfl, t, rfl, hd, hs, rfl, rfl⟩) (ev_var rfl)) ⟨_, _, rfl, mcT t 0, ds.map strOf, rfl, .inr (congrArg (fun z => W.val (.lst z)) (all_nm ha)), hs.fits 0, mc_fi_lt t, by rw [List.length_map]; exact ho.1, rfl, rfl⟩)) ⟨by show Out.ret _ = Out.ret (.bl (ds.all isNmD && _)); rw [ha]; rfl, rfl⟩
  | bl _ => exact ho.elim
  | dit _ => exact ho.elim
  | ins _ _ => exact ho.elim
  | din _ _ => exact ho.elim
  | ty _ => exact ho.elim
  | adr _ => exact ho.elim
end
def ct_Pattern___add (K : PySem.W.Frag) : Ct := Ct2 fun a b ka out => ∃ t u : Tr, a = .val (PaD K (t.d false)) ∧ b = .val (PaD K (u.d false)) ∧ ka = [] ∧ out = Rt (PaD K ((Tr.join t u).d false)) []
section
variable {P : Program} {w : World} {K : PySem.W.Frag} {mg : Str → Option Value} {base : Heap}
theorem ok_Pattern___add (T : Tx K mg) (F_joined : Fn P w K mg base 4 (He.ga K "joined") ["kind", "one", "two"] (ct_joined K)) (F_Pattern___init : Fn P w K mg base 4 (He.ma K (He.ga K "Pattern") "__init__") ["self", "tree"] (ct_Pattern___init K)) : Fn P w K mg base 6 (He.ma K (He.ga K "Pattern") "__add__") ["self", "other"] (ct_Pattern___add K) := by
  obtain ⟨fd, F⟩ := T.d_Pattern___add
  refine fn_ok F sc_Pattern___add (fun _ _ _ _ _ _ us hl => match us, hl with | [_, _], _ => rfl) ct2_len (fun cdv A outer s H E hr => ⟨_, (pss_cons (ps_if (pt_not (pt_val (pe_callB call_isi rfl T.n_isinstance (by decide +kernel) (pa_cons (pv 1) (pa_cons (pe_glob (v := .ref (He.ga K "Pattern")) rfl T.g_Pattern.1 rfl) pa_nil)))))
      (pss_one (ps_ret pe_no))
      pss_nil)
      (pss_one (ps_ret (pe_make T.mk_Pattern (F_Pattern___init.up (by decide)).ok hr rfl T.g_Pattern.1 (F_Pattern___init.up (by decide)).bn .nil (pass_own rfl rfl rfl rfl) (pa_cons (pe_call (F_joined.up (by decide)).ok hr rfl T.g_joined.1 T.g_joined.2 (F_joined.up (by decide)).bn .nil (pass_own rfl rfl rfl rfl) (pa_cons pe_str (pa_cons (pe_fld (pv 0) rfl) (pa_cons (pe_fld (pv 1) rfl) pa_nil)))) pa_nil))))), fun ws ka out B F0 Q hC hR hX => ?_⟩)
  obtain ⟨a, b, rfl, t, u, rfl, rfl, rfl, rfl⟩ := hC
  refine q_when (b := false) ((et_not (et_B (ev_isiC (ev_var rfl) (.io .v T.ci_Pattern) T.ko_Pattern_Pattern))).to rfl) (fun z => by cases z) (fun _ => ?_)
  exact g_ret hR (ev_pat (ev_callP (ea3 ev_str (ev_fld (ev_var rfl) .v T.cl_Pattern T.na_Pattern_tree rfl) (ev_fld (ev_var rfl) .v T.cl_Pattern T.na_Pattern_tree rfl)) ⟨_, _, _, rfl, _, _, _, rfl, rfl, rfl, rfl, rfl⟩)) ⟨rfl, rfl⟩
end
def ct_Pattern___or (K : PySem.W.Frag) : Ct := Ct2 fun a b ka out => ∃ t u : Tr, a = .val (PaD K (t.d false)) ∧ b = .val (PaD K (u.d false)) ∧ ka = [] ∧ out = Rt (PaD K ((Tr.either t u).d false)) []
section
variable {P : Program} {w : World} {K : PySem.W.Frag} {mg : Str → Option Value} {base : Heap}
theorem ok_Pattern___or (T : Tx K mg) (F_joined : Fn P w K mg base 4 (He.ga K "joined") ["kind", "one", "two"] (ct_joined K)) (F_Pattern___init : Fn P w K mg base 4 (He.ma K (He.ga K "Pattern") "__init__") ["self", "tree"] (ct_Pattern___init K)) : Fn P w K mg base 6 (He.ma K (He.ga K "Pattern") "__or__") ["self", "other"] (ct_Pattern___or K) := by
  obtain ⟨fd, F⟩ := T.d_Pattern___or
  refine fn_ok F sc_Pattern___or (fun _ _ _ _ _ _ us hl => match us, hl with | [_, _], _ => rfl) ct2_len (fun cdv A outer s H E hr => ⟨_, (pss_cons (ps_if (pt_not (pt_val (pe_callB call_isi rfl T.n_isinstance (by decide +kernel) (pa_cons (pv 1) (pa_cons (pe_glob (v := .ref (He.ga K "Pattern")) rfl T.g_Pattern.1 rfl) pa_nil)))))
      (pss_one (ps_ret pe_no))
      pss_nil)
      (pss_one (ps_ret (pe_make T.mk_Pattern (F_Pattern___init.up (by decide)).ok hr rfl T.g_Pattern.1 (F_Pattern___init.up (by decide)).bn .nil (pass_own rfl rfl rfl rfl) (pa_cons (pe_call (F_joined.up (by decide)).ok hr rfl T.g_joined.1 T.g_joined.2 (F_joined.up (by decide)).bn .nil (pass_own rfl rfl rfl rfl) (pa_cons pe_str (pa_cons (pe_fld (pv 0) rfl) (pa_cons (pe_fld (pv 1) rfl) pa_nil)))) pa_nil))))), fun ws ka out B F0 Q hC hR hX => ?_⟩)
  obtain ⟨a, b, rfl, t, u, rfl, rfl, rfl, rfl⟩ := hC
  refine q_when (b := false) ((et_not (et_B (ev_isiC (ev_var rfl) (.io .v T.ci_Pattern) T.ko_Pattern_Pattern))).to rfl) (fun z => by cases z) (fun _ => ?_)
  exact g_ret hR (ev_pat (ev_callP (ea3 ev_str (ev_fld (ev_var rfl) .v T.cl_Pattern T.na_Pattern_tree rfl) (ev_fld (ev_var rfl) .v T.cl_Pattern T.na_Pattern_tree rfl)) ⟨_, _, _, rfl, _, _, _, rfl, rfl, rfl, rfl, rfl⟩)) ⟨rfl, rfl⟩
end
def pmOut (K : PySem.W.Frag) (t : Tr) : D → Oc
  | .int i => if 1 ≤ i then Rt (PaD K ((powT t (i.toNat - 1)).d false)) [] else Xt (He.ga K "BadNumber") [("value", .int i)] []
  | d => Xt (He.ga K "BadNumber") [("value", d)] []
def isPos : D → Bool
  | .int i => decide (1 ≤ i)
  | _ => false
theorem pm_bad {K : PySem.W.Frag} {t : Tr} {d : D} (h : isPos d = false) : pmOut K t d = Xt (He.ga K "BadNumber") [("value", d)] [] := by
  cases d with
  | int i =>
    have : ¬ 1 ≤ i := of_decide_eq_false h
    show (if 1 ≤ i then _ else _) = _
    rw [if_neg this]
  | _ => rfl
def ct_Pattern___mul (K : PySem.W.Frag) : Ct := Ct2 fun s a ka out => ∃ (t : Tr) (d : D), s = .val (PaD K (t.d false)) ∧ a = .val d ∧ tyD d ≠ none ∧ (∀ i, d = .int i → i ≤ 1000) ∧ ka = [] ∧ out = pmOut K t d
section
variable {P : Program} {w : World} {K : PySem.W.Frag} {mg : Str → Option Value} {base : Heap}
theorem ok_Pattern___mul (T : Tx K mg) (F_is_count : Fn P w K mg base 6 (He.ga K "is_count") ["value"] (ct_is_count K)) (F_joined : Fn P w K mg base 4 (He.ga K "joined") ["kind", "one", "two"] (ct_joined K)) (F_Pattern___init : Fn P w K mg base 4 (He.ma K (He.ga K "Pattern") "__init__") ["self", "tree"] (ct_Pattern___init K)) (Z_BadNumber : Xn P w K mg base (He.ga K "BadNumber") "value") : Fn P w K mg base 8 (He.ma K (He.ga K "Pattern") "__mul__") ["self", "number"] (ct_Pattern___mul K) := by
  obtain ⟨fd, F⟩ := T.d_Pattern___mul
  refine fn_ok F sc_Pattern___mul (fun _ _ _ _ _ _ us hl => match us, hl with | [_, _], _ => rfl) ct2_len (fun cdv A outer s H E hr => ⟨_, (pss_cons (ps_if (PW.pt (pw_or (pt_not (pt_val (pe_call (F_is_count.up (by decide)).ok hr rfl T.g_is_count.1 T.g_is_count.2 (F_is_count.up (by decide)).bn .nil (pass_own rfl rfl rfl rfl) (pa_cons (pv 1) pa_nil)))) (pw_or1 (pt_cmpR (op_eqP (by have := (hr).units; exact this)) (pv 1) pe_int (nomark _)))))
      (pss_one (ps_raise rfl (takes_of rfl rfl rfl rfl) (pmk_oex Z_BadNumber.xc.oex Z_BadNumber.all.1 Z_BadNumber.all.2.1 Z_BadNumber.all.2.2.1 (hr.mono (by decide)) Z_BadNumber.all.2.2.2 .nil passes_no rfl T.g_BadNumber.1 (pa_cons (pv 1) pa_nil))))
      pss_nil)
      (pss_cons (ps_set (i := 2) sc_Pattern___mul.nd rfl (by first | exact Or.inl rfl | exact Or.inr rfl) (pe_fld (pv 0) rfl))
      (pss_cons (ps_for (passes_of rfl) rfl (pi_range1 rfl T.n_range (pa_cons (pe_op op_sub (pv 1) pe_int) pa_nil)) (pg_name (i := 3) sc_Pattern___mul.nd rfl (by first | exact Or.inl rfl | exact Or.inr rfl)) (pss_one (ps_set (i := 2) sc_Pattern___mul.nd rfl (by first | exact Or.inl rfl | exact Or.inr rfl) (pe_call (F_joined.up (by decide)).ok hr rfl T.g_joined.1 T.g_joined.2 (F_joined.up (by decide)).bn .nil (pass_own rfl rfl rfl rfl) (pa_cons pe_str (pa_cons (pv 2) (pa_cons (pe_fld (pv 0) rfl) pa_nil)))))))
      (pss_one (ps_ret (pe_make T.mk_Pattern (F_Pattern___init.up (by decide)).ok hr rfl T.g_Pattern.1 (F_Pattern___init.up (by decide)).bn .nil (pass_own rfl rfl rfl rfl) (pa_cons (pv 2) pa_nil))))))), fun ws ka out B F0 Q hC hR hX => ?_⟩)
  obtain ⟨s1, a, rfl, t, d, rfl, rfl, hd, hi, rfl, rfl⟩ := hC
  cases hp : isPos d with
  | false =>
    have ht : isCt d = false ∨ d = .int 0 := by
      cases d with
      | int i =>
        have : ¬ 1 ≤ i := of_decide_eq_false hp
        by_cases h0 : 0 ≤ i
        · exact .inr (by rw [show i = 0 by omega])
        · exact .inl (decide_eq_false h0)
      | _ => exact .inl rfl
    have ex : pmOut K t d = Xt (He.ga K "BadNumber") [("value", d)] [] := pm_bad hp
    rcases ht with ht | rfl
    · refine q_when (et_or1 ((et_not (et_B (ev_callP (ea1 (ev_var rfl)) ⟨_, rfl, d, rfl, hd, rfl, rfl⟩))).to (by rw [ht]; rfl))) (fun _ => g_raise1 hX (ea1 (ev_var rfl)) Z_BadNumber.xc.oex Z_BadNumber.no ?_) (fun z => by cases z)
      rw [ex]
      exact ⟨rfl, rfl⟩
    · refine q_when (et_or0 ((et_not (et_B (ev_callP (ea1 (ev_var rfl)) ⟨_, rfl, .int 0, rfl, hd, rfl, rfl⟩))).to rfl) ((et_test (ev_eqI (ev_var rfl) ev_int)).to (b := true) rfl)) (fun _ => g_raise1 hX (ea1 (ev_var rfl)) Z_BadNumber.xc.oex Z_BadNumber.no ?_) (fun z => by cases z)
      rw [ex]
      exact ⟨rfl, rfl⟩
  | true =>
    cases d with
    | int i =>
      have h1 : 1 ≤ i := of_decide_eq_true hp
      have h2 := hi i rfl
      refine q_when (et_or0 ((et_not (et_B (ev_callP (ea1 (ev_var rfl)) ⟨_, rfl, .int i, rfl, hd, rfl, rfl⟩))).to (b := false) ?_) ((et_test (ev_eqI (ev_var rfl) ev_int)).to (b := false) (beq_eq_false_iff_ne.mpr (by omega)))) (fun z => by cases z) (fun _ => ?_)
      · show (!decide (0 ≤ i)) = false
        rw [decide_eq_true (by omega)]
        rfl
      refine q_asg (ev_fld (ev_var rfl) .v T.cl_Pattern T.na_Pattern_tree rfl) ?_
      refine q_forn (ei_range1 (ea1 (ev_subI (ev_var rfl) ev_int)) (by omega) (by omega)) (fun j ro ka => ∃ v, ro = [some (.val (PaD K (t.d false))), some (.val (.int i)), some (.val ((powT t j).d false)), v] ∧ ka = []) ⟨none, rfl, rfl⟩ (fun _ _ _ _ => trivial) (fun j w ro2 ka2 ta' hw ⟨v, e1, e2⟩ => ?_) (fun ro2 ka2 ta' ⟨v, e1, e2⟩ _ => ?_)
      · subst e1 e2
        exact g_asg (ev_callP (ea3 ev_str (ev_var rfl) (ev_fld (ev_var rfl) .v T.cl_Pattern T.na_Pattern_tree rfl)) ⟨_, _, _, rfl, _, _, _, rfl, rfl, rfl, rfl, rfl⟩) (g_jp ⟨_, rfl, rfl⟩)
      · subst e1 e2
        rw [List.length_map, List.length_range]
        refine g_ret hR (ev_pat (ev_var rfl)) ?_
        have e : pmOut K t (.int i) = Rt (PaD K ((powT t (i.toNat - 1)).d false)) [] := if_pos h1
        rw [e]
        exact ⟨by rw [show (i - 1).toNat = i.toNat - 1 by omega], rfl⟩
    | _ => cases hp
end
theorem names_ok {ns : List Str} (h : ∀ n ∈ ns, isNm n = true) : (∀ d ∈ stD ns, nmOk d) ∧ ∀ d ∈ stD ns, isNmD d = true := by
  refine ⟨fun d hd => ?_, fun d hd => ?_⟩
  · obtain ⟨s, hs, rfl⟩ := List.mem_map.mp hd
    exact Nat.le_trans (isNm_len (h s hs)) (by decide)
  · obtain ⟨s, hs, rfl⟩ := List.mem_map.mp hd
    exact h s hs
/-- names in a row, none missing -/
def ct_any_of (K : PySem.W.Frag) : Ct := Ct1 fun a ka out => ∃ ns : List Str, a = .val (.tup (stD ns)) ∧ ns ≠ [] ∧ (∀ n ∈ ns, isNm n = true) ∧ ka = [] ∧ out = Rt (PaD K ((Tr.at true ns).d false)) []
section
variable {P : Program} {w : World} {K : PySem.W.Frag} {mg : Str → Option Value} {base : Heap}
theorem ok_any_of (T : Tx K mg) (F_check_lanes : Fn P w K mg base 6 (He.ga K "check_lanes") ["lanes"] (ct_check_lanes K)) (F_Pattern___init : Fn P w K mg base 4 (He.ma K (He.ga K "Pattern") "__init__") ["self", "tree"] (ct_Pattern___init K)) : FnV P w K mg base 8 (He.ga K "any_of") (ct_any_of K) := by
  obtain ⟨fd, F⟩ := T.d_any_of
  refine fn_okV F sc_any_of (fun _ _ _ _ _ _ rest => by cases rest <;> rfl) ct1_len (fun cdv A outer s H E hr => ⟨_, (pss_cons (ps_expr (pe_call (F_check_lanes.up (by decide)).ok hr rfl T.g_check_lanes.1 T.g_check_lanes.2 (F_check_lanes.up (by decide)).bn .nil (pass_own rfl rfl rfl rfl) (pa_cons (pv 0) pa_nil)))
      (pss_one (ps_ret (pe_make T.mk_Pattern (F_Pattern___init.up (by decide)).ok hr rfl T.g_Pattern.1 (F_Pattern___init.up (by decide)).bn .nil (pass_own rfl rfl rfl rfl) (pa_cons (pe_tup (pa_cons pe_str (pa_cons (pv 0) pa_nil))) pa_nil))))), fun ws ka out B F0 Q hC hR hX => ?_⟩)
  obtain ⟨a, rfl, ns, rfl, hne, hn, rfl, rfl⟩ := hC
  have nn := names_ok hn
  refine q_drop (ev_callA (k2 := []) (d := .non) (ea1 (ev_var rfl)) ⟨_, rfl, true, stD ns, false, .vt, sqf_stD _ ns, nn.1, (ck_ok (fun z => hne (List.map_eq_nil_iff.mp z)) nn.2).symm⟩) ?_
  exact g_ret hR (ev_pat (ev_tup (ds := [.str "any", .tup (stD ns)]) (ea2 ev_str (ev_var rfl)) (Nat.le_of_ble_eq_true rfl))) ⟨rfl, rfl⟩
end
def ct_none_of (K : PySem.W.Frag) : Ct := Ct1 fun a ka out => ∃ ns : List Str, a = .val (.tup (stD ns)) ∧ (∀ n ∈ ns, isNm n = true) ∧ ka = [] ∧ out = Rt (PaD K ((Tr.at false ns).d false)) []
section
variable {P : Program} {w : World} {K : PySem.W.Frag} {mg : Str → Option Value} {base : Heap}
theorem ok_none_of (T : Tx K mg) (F_check_lanes : Fn P w K mg base 6 (He.ga K "check_lanes") ["lanes"] (ct_check_lanes K)) (F_Pattern___init : Fn P w K mg base 4 (He.ma K (He.ga K "Pattern") "__init__") ["self", "tree"] (ct_Pattern___init K)) : FnV P w K mg base 8 (He.ga K "none_of") (ct_none_of K) := by
  obtain ⟨fd, F⟩ := T.d_none_of
  refine fn_okV F sc_none_of (fun _ _ _ _ _ _ rest => by cases rest <;> rfl) ct1_len (fun cdv A outer s H E hr => ⟨_, (pss_cons (ps_if (pt_cmpR op_gt (pe_callB call_lenU rfl T.n_len (by decide +kernel) (pa_cons (pv 0) pa_nil)) pe_int (nomark _))
      (pss_one (ps_expr (pe_call (F_check_lanes.up (by decide)).ok hr rfl T.g_check_lanes.1 T.g_check_lanes.2 (F_check_lanes.up (by decide)).bn .nil (pass_own rfl rfl rfl rfl) (pa_cons (pv 0) pa_nil))))
      pss_nil)
      (pss_one (ps_ret (pe_make T.mk_Pattern (F_Pattern___init.up (by decide)).ok hr rfl T.g_Pattern.1 (F_Pattern___init.up (by decide)).bn .nil (pass_own rfl rfl rfl rfl) (pa_cons (pe_tup (pa_cons pe_str (pa_cons (pv 0) pa_nil))) pa_nil))))), fun ws ka out B F0 Q hC hR hX => ?_⟩)
  obtain ⟨a, rfl, ns, rfl, hn, rfl, rfl⟩ := hC
  have nn := names_ok hn
  cases hns : ns with
  | nil =>
    subst hns
    refine q_when ((et_test (ev_gt (ev_len (ev_var rfl) .vt) ev_int)).to (b := false) rfl) (fun z => by cases z) (fun _ => ?_)
    exact g_ret hR (ev_pat (ev_tup (ds := [.str "none", .tup (stD [])]) (ea2 ev_str (ev_var rfl)) (Nat.le_of_ble_eq_true rfl))) ⟨rfl, rfl⟩
  | cons x xs =>
    rw [← hns]
    have hne : ns ≠ [] := by rw [hns]; exact List.cons_ne_nil _ _
    refine q_when ((et_test (ev_gt (ev_len (ev_var rfl) .vt) ev_int)).to (b := true) ?_) (fun _ => ?_) (fun z => by cases z)
    · rw [stD_len, hns, List.length_cons]
      exact decide_eq_true (by omega)
    · refine g_drop (ev_callA (k2 := []) (d := .non) (ea1 (ev_var rfl)) ⟨_, rfl, true, stD ns, false, .vt, sqf_stD _ ns, nn.1, (ck_ok (fun z => hne (List.map_eq_nil_iff.mp z)) nn.2).symm⟩) ?_
      exact g_ret hR (ev_pat (ev_tup (ds := [.str "none", .tup (stD ns)]) (ea2 ev_str (ev_var rfl)) (Nat.le_of_ble_eq_true rfl))) ⟨rfl, rfl⟩
end
def ct_repeated (K : PySem.W.Frag) : Ct := Ct1 fun a ka out => ∃ t : Tr, a = .val (PaD K (t.d false)) ∧ ka = [] ∧ out = Rt (PaD K ((Tr.rep t).d false)) []
section
variable {P : Program} {w : World} {K : PySem.W.Frag} {mg : Str → Option Value} {base : Heap}
theorem ok_repeated (T : Tx K mg) (F_Pattern___init : Fn P w K mg base 4 (He.ma K (He.ga K "Pattern") "__init__") ["self", "tree"] (ct_Pattern___init K)) : Fn P w K mg base 6 (He.ga K "repeated") ["pattern"] (ct_repeated K) := by
  obtain ⟨fd, F⟩ := T.d_repeated
  refine fn_ok F sc_repeated (fun _ _ _ _ _ _ us hl => match us, hl with | [_], _ => rfl) ct1_len (fun cdv A outer s H E hr => ⟨_, (pss_one (ps_ret (pe_make T.mk_Pattern (F_Pattern___init.up (by decide)).ok hr rfl T.g_Pattern.1 (F_Pattern___init.up (by decide)).bn .nil (pass_own rfl rfl rfl rfl) (pa_cons (pe_tup (pa_cons pe_str (pa_cons (pe_fld (pv 0) rfl) pa_nil))) pa_nil)))), fun ws ka out B F0 Q hC hR hX => ?_⟩)
  obtain ⟨a, rfl, t, rfl, rfl, rfl⟩ := hC
  exact g_ret hR (ev_pat (ev_tup (ds := [.str "repeat", t.d false]) (ea2 ev_str (ev_fld (ev_var rfl) .v T.cl_Pattern T.na_Pattern_tree rfl)) (Nat.le_of_ble_eq_true rfl))) ⟨rfl, rfl⟩
end
def ct_optional (K : PySem.W.Frag) : Ct := Ct1 fun a ka out => ∃ t : Tr, a = .val (PaD K (t.d false)) ∧ ka = [] ∧ out = Rt (PaD K ((Tr.opt t).d false)) []
section
variable {P : Program} {w : World} {K : PySem.W.Frag} {mg : Str → Option Value} {base : Heap}
theorem ok_optional (T : Tx K mg) (F_Pattern___init : Fn P w K mg base 4 (He.ma K (He.ga K "Pattern") "__init__") ["self", "tree"] (ct_Pattern___init K)) : Fn P w K mg base 6 (He.ga K "optional") ["pattern"] (ct_optional K) := by
  obtain ⟨fd, F⟩ := T.d_optional
  refine fn_ok F sc_optional (fun _ _ _ _ _ _ us hl => match us, hl with | [_], _ => rfl) ct1_len (fun cdv A outer s H E hr => ⟨_, (pss_one (ps_ret (pe_make T.mk_Pattern (F_Pattern___init.up (by decide)).ok hr rfl T.g_Pattern.1 (F_Pattern___init.up (by decide)).bn .nil (pass_own rfl rfl rfl rfl) (pa_cons (pe_tup (pa_cons pe_str (pa_cons (pe_fld (pv 0) rfl) pa_nil))) pa_nil)))), fun ws ka out B F0 Q hC hR hX => ?_⟩)
  obtain ⟨a, rfl, t, rfl, rfl, rfl⟩ := hC
  exact g_ret hR (ev_pat (ev_tup (ds := [.str "option", t.d false]) (ea2 ev_str (ev_fld (ev_var rfl) .v T.cl_Pattern T.na_Pattern_tree rfl)) (Nat.le_of_ble_eq_true rfl))) ⟨rfl, rfl⟩
end
def ct_word_pattern (K : PySem.W.Frag) : Ct := Ct1 fun a ka out => ∃ (tt : Bool) (x : Str) (xs : List Str), Lk [] a tt (stD (x :: xs)) false ∧ xs.length ≤ 1000 ∧ ka = [] ∧ out = Rt (PaD K ((wdT x xs).d false)) []
section
variable {P : Program} {w : World} {K : PySem.W.Frag} {mg : Str → Option Value} {base : Heap}
theorem ok_word_pattern (T : Tx K mg) (F_Pattern___init : Fn P w K mg base 4 (He.ma K (He.ga K "Pattern") "__init__") ["self", "tree"] (ct_Pattern___init K)) : Fn P w K mg base 6 (He.ga K "word_pattern") ["names"] (ct_word_pattern K) := by
  obtain ⟨fd, F⟩ := T.d_word_pattern
  refine fn_ok F sc_word_pattern (fun _ _ _ _ _ _ us hl => match us, hl with | [_], _ => rfl) ct1_len (fun cdv A outer s H E hr => ⟨_, (pss_cons (ps_set (i := 1) sc_word_pattern.nd rfl (by first | exact Or.inl rfl | exact Or.inr rfl) (pe_tup (pa_cons pe_str (pa_cons (pe_tup (pa_cons (pe_ix ix_seq (pv 0) pe_int fun _ _ => rfl) pa_nil)) pa_nil))))
      (pss_cons (ps_for (passes_of rfl) rfl (pi_seq (pe_slice sl_U (pv 0) (po_some pe_int) po_none)) (pg_name (i := 2) sc_word_pattern.nd rfl (by first | exact Or.inl rfl | exact Or.inr rfl)) (pss_one (ps_set (i := 1) sc_word_pattern.nd rfl (by first | exact Or.inl rfl | exact Or.inr rfl) (pe_tup (pa_cons pe_str (pa_cons (pv 1) (pa_cons (pe_tup (pa_cons pe_str (pa_cons (pe_tup (pa_cons (pv 2) pa_nil)) pa_nil))) pa_nil)))))))
      (pss_one (ps_ret (pe_make T.mk_Pattern (F_Pattern___init.up (by decide)).ok hr rfl T.g_Pattern.1 (F_Pattern___init.up (by decide)).bn .nil (pass_own rfl rfl rfl rfl) (pa_cons (pv 1) pa_nil)))))), fun ws ka out B F0 Q hC hR hX => ?_⟩)
  obtain ⟨a, rfl, tt, x, xs, l, hl, rfl, rfl⟩ := hC
  have cut : cutD (stD (x :: xs)) (some 1) none = stD xs := by
    rw [cut_from (by decide) (by rw [stD_len, List.length_cons]; omega)]
    rfl
  cases l with
  | ce j h => simp at h
  | vt =>
    refine q_asg (ev_tup (ds := [.str "any", .tup [.str x]]) (ea2 ev_str (ev_tup (ds := [.str x]) (ea1 (ev_ixV (ev_var rfl) ev_int .vt at0)) (Nat.le_of_ble_eq_true rfl))) (Nat.le_of_ble_eq_true rfl)) ?_
    refine q_forn (C := fun _ => True) (EvI.ws (ws' := xs.map fun s : Str => W.val (.str s)) (ei_seq (ds := stD xs) ((ev_slT (ev_var rfl) (eo_some ev_int) eo_none).to (by rw [cut])) .vt) (by unfold stD; rw [List.map_map]; rfl)) (fun i ro ka => ∃ v, ro = [some (.val (.tup (stD (x :: xs)))), some (.val ((wdT x (xs.take i)).d false)), v] ∧ ka = []) ⟨none, rfl, rfl⟩ (fun _ _ _ _ => trivial) (fun i w ro2 ka2 ta' hw ⟨v, e1, e2⟩ => ?_) (fun ro2 ka2 ta' ⟨v, e1, e2⟩ _ => ?_)
    · subst e1 e2
      rw [List.getElem?_map] at hw
      obtain ⟨y, hy, rfl⟩ := Option.map_eq_some_iff.mp hw
      refine g_asg (w := .val ((Tr.join (wdT x (xs.take i)) (.at true [y])).d false)) (ev_tup (ds := [.str "join", (wdT x (xs.take i)).d false, .tup [.str "any", .tup [.str y]]]) (ea3 ev_str (ev_var rfl) (ev_tup (ds := [.str "any", .tup [.str y]]) (ea2 ev_str (ev_tup (ds := [.str y]) (ea1 (ev_var rfl)) (Nat.le_of_ble_eq_true rfl))) (Nat.le_of_ble_eq_true rfl))) (Nat.le_of_ble_eq_true rfl)) (g_jp ⟨some (.val (.str y)), ?_, rfl⟩)
      rw [take_succ_some hy, wdT_snoc]
      rfl
    · subst e1 e2
      rw [List.length_map, List.take_length]
      exact g_ret hR (ev_pat (ev_var rfl)) ⟨rfl, rfl⟩
  | vl =>
    refine q_asg (ev_tup (ds := [.str "any", .tup [.str x]]) (ea2 ev_str (ev_tup (ds := [.str x]) (ea1 (ev_ixV (ev_var rfl) ev_int .vl at0)) (Nat.le_of_ble_eq_true rfl))) (Nat.le_of_ble_eq_true rfl)) ?_
    refine q_forn (C := fun _ => True) (EvI.ws (ws' := xs.map fun s : Str => W.val (.str s)) (ei_seq (ds := stD xs) ((evn_sl (ev_var rfl) (eo_some ev_int) eo_none .vl).lst.to (w' := .val (.lst (stD xs))) (congrArg (fun z => W.val (.lst z)) cut)) .vl) (by unfold stD; rw [List.map_map]; rfl)) (fun i ro ka => ∃ v, ro = [some (.val (.lst (stD (x :: xs)))), some (.val ((wdT x (xs.take i)).d false)), v] ∧ ka = []) ⟨none, rfl, rfl⟩ (fun _ _ _ _ => trivial) (fun i w ro2 ka2 ta' hw ⟨v, e1, e2⟩ => ?_) (fun ro2 ka2 ta' ⟨v, e1, e2⟩ _ => ?_)
    · subst e1 e2
      rw [List.getElem?_map] at hw
      obtain ⟨y, hy, rfl⟩ := Option.map_eq_some_iff.mp hw
      refine g_asg (w := .val ((Tr.join (wdT x (xs.take i)) (.at true [y])).d false)) (ev_tup (ds := [.str "join", (wdT x (xs.take i)).d false, .tup [.str "any", .tup [.str y]]]) (ea3 ev_str (ev_var rfl) (ev_tup (ds := [.str "any", .tup [.str y]]) (ea2 ev_str (ev_tup (ds := [.str y]) (ea1 (ev_var rfl)) (Nat.le_of_ble_eq_true rfl))) (Nat.le_of_ble_eq_true rfl))) (Nat.le_of_ble_eq_true rfl)) (g_jp ⟨some (.val (.str y)), ?_, rfl⟩)
      rw [take_succ_some hy, wdT_snoc]
      rfl
    · subst e1 e2
      rw [List.length_map, List.take_length]
      exact g_ret hR (ev_pat (ev_var rfl)) ⟨rfl, rfl⟩
end
def strN : D → Str
  | .str s => s
  | _ => ""
theorem all_str : ∀ {ds : List D}, (∀ d ∈ ds, isNmD d = true) → ds = stD (ds.map strN)
  | [], _ => rfl
  | d :: ds, h => by
    have ih := all_str fun e he => h e (List.mem_cons_of_mem _ he)
    have h0 := h d List.mem_cons_self
    cases d with
    | str s => exact congrArg (D.str s :: ·) ih
    | _ => cases h0
/-- what a row of things stands for: the walk of these names, or what is refused -/
def apOut (K : PySem.W.Frag) (P : Tr → Oc) (ds : List D) : Oc := match ds, ds.find? (fun d => !isNmD d) with
  | [], _ => X0 (He.ga K "EmptyWalk") []
  | d :: r, none => P (wdT (strN d) (r.map strN))
  | _ :: _, some d => Xt (He.ga K "BadName") [("name", d)] []
/-- what stands for a pattern: a row of names of up to eight things, a pattern of up to ten atoms; how it is met -/
def MoR (K : PySem.W.Frag) (a : W) (P : Tr → Oc) (out : Oc) : Prop :=
  (∃ t ds, Lk [] a t ds false ∧ ds.length ≤ 8 ∧ (∀ d ∈ ds, nmOk d) ∧ out = apOut K P ds) ∨ (∃ u : Tr, a = .val (PaD K (u.d false)) ∧ u.dep < 8 ∧ u.sm ∧ u.ats ≤ 10 ∧ out = P u)
def ct_as_pattern (K : PySem.W.Frag) : Ct := Ct1 fun a ka out => MoR K a (fun u => Rt (PaD K (u.d false)) []) out ∧ ka = []
section
variable {P : Program} {w : World} {K : PySem.W.Frag} {mg : Str → Option Value} {base : Heap}
theorem ok_as_pattern (T : Tx K mg) (F_check_lanes : Fn P w K mg base 6 (He.ga K "check_lanes") ["lanes"] (ct_check_lanes K)) (F_word_pattern : Fn P w K mg base 6 (He.ga K "word_pattern") ["names"] (ct_word_pattern K)) : Fn P w K mg base 8 (He.ga K "as_pattern") ["thing"] (ct_as_pattern K) := by
  obtain ⟨fd, F⟩ := T.d_as_pattern
  refine fn_ok F sc_as_pattern (fun _ _ _ _ _ _ us hl => match us, hl with | [_], _ => rfl) ct1_len (fun cdv A outer s H E hr => ⟨_, (pss_cons (ps_if (pt_val (pe_callB call_isi rfl T.n_isinstance (by decide +kernel) (pa_cons (pv 0) (pa_cons (pe_glob (v := .ref (He.ga K "Pattern")) rfl T.g_Pattern.1 rfl) pa_nil))))
      (pss_one (ps_ret (pv 0)))
      pss_nil)
      (pss_cons (ps_expr (pe_call (F_check_lanes.up (by decide)).ok hr rfl T.g_check_lanes.1 T.g_check_lanes.2 (F_check_lanes.up (by decide)).bn .nil (pass_own rfl rfl rfl rfl) (pa_cons (pv 0) pa_nil)))
      (pss_one (ps_ret (pe_call (F_word_pattern.up (by decide)).ok hr rfl T.g_word_pattern.1 T.g_word_pattern.2 (F_word_pattern.up (by decide)).bn .nil (pass_own rfl rfl rfl rfl) (pa_cons (pv 0) pa_nil)))))), fun ws ka out B F0 Q hC hR hX => ?_⟩)
  obtain ⟨a, rfl, ⟨t, ds, l, hz, hd, rfl⟩ | ⟨u, rfl, _, _, _, rfl⟩, rfl⟩ := hC
  rotate_left
  · exact q_when ((et_test (ev_isiC (ev_var rfl) (.io .v T.ci_Pattern) T.ko_Pattern_Pattern)).to (b := true) rfl) (fun _ => g_ret hR (ev_var rfl) ⟨rfl, rfl⟩) (fun z => by cases z)
  have isi : EvT K (tTest (tCB (rIsi K) (tCons (tVar 0) (tCons (tC (.ref (He.ga K "Pattern"))) tNil)))) [some a] [] false [] := by
    cases l with
    | ce j h => simp at h
    | vl => exact et_test (ev_isiC (ev_var rfl) (tw_of (T := "list") rfl) T.kc_list_Pattern)
    | vt => exact et_test (ev_isiC (ev_var rfl) (tw_of (T := "tuple") rfl) T.kc_tuple_Pattern)
  refine q_when isi (fun z => by cases z) (fun _ => ?_)
  match ds, l, hz, hd, hX, hR with
  | [], l, _, hd, hX, _ => exact q_dropP0 hX (evx0_call (k2 := []) (kr := []) (k3 := []) (ea1 (ev_var rfl)) ⟨_, rfl, t, [], false, l, .inl rfl, hd, rfl⟩ rfl) ⟨rfl, rfl⟩
  | d :: r, l, hz, hd, hX, hR =>
    cases h : (d :: r).find? (fun d => !isNmD d) with
    | some e =>
      have ex : apOut K (fun u => Rt (PaD K (u.d false)) []) (d :: r) = Xt (He.ga K "BadName") [("name", e)] [] := by unfold apOut; rw [h]
      rw [ex] at hX
      exact q_dropP hX (evx_call (k2 := []) (kr := []) (k3 := []) (ea1 (ev_var rfl)) ⟨_, rfl, t, _, false, l, .inl rfl, hd, (ck_bad h).symm⟩ rfl) ⟨rfl, rfl⟩
    | none =>
      have all : ∀ e ∈ d :: r, isNmD e = true := fun e he => by
        have := List.find?_eq_none.mp h e he
        simpa using this
      have ex : apOut K (fun u => Rt (PaD K (u.d false)) []) (d :: r) = Rt (PaD K ((wdT (strN d) (r.map strN)).d false)) [] := by unfold apOut; rw [h]
      rw [ex] at hR
      refine q_drop (ev_callA (k2 := []) (d := .non) (ea1 (ev_var rfl)) ⟨_, rfl, t, _, false, l, .inl rfl, hd, (ck_ok (List.cons_ne_nil _ _) all).symm⟩) ?_
      have row : d :: r = stD (strN d :: r.map strN) := all_str all
      exact g_ret hR (ev_callP (ea1 (ev_var rfl)) ⟨_, rfl, t, strN d, r.map strN, row ▸ l, by rw [List.length_map]; rw [List.length_cons] at hz; omega, rfl, rfl⟩) ⟨rfl, rfl⟩
end
theorem wd_ats (x : Str) (xs : List Str) : (wdT x xs).ats = xs.length + 1 ∧ (wdT x xs).ops = xs.length ∧ (wdT x xs).dep ≤ xs.length ∧ (wdT x xs).few := by
  have key : ∀ n (xs : List Str), xs.length = n → (wdT x xs).ats = xs.length + 1 ∧ (wdT x xs).ops = xs.length ∧ (wdT x xs).dep ≤ xs.length ∧ (wdT x xs).few := by
    intro n
    induction n with
    | zero =>
      intro xs h
      obtain rfl := List.eq_nil_of_length_eq_zero h
      exact ⟨rfl, rfl, Nat.le_refl _, Nat.le_of_ble_eq_true rfl⟩
    | succ n ih =>
      intro xs h
      have hne : xs ≠ [] := fun z => by rw [z] at h; cases h
      obtain ⟨ys, y, rfl⟩ : ∃ ys y, xs = ys ++ [y] := ⟨xs.dropLast, xs.getLast hne, (List.dropLast_concat_getLast hne).symm⟩
      rw [List.length_append] at h ⊢
      obtain ⟨h1, h2, h3, h4⟩ := ih ys (by simpa using h)
      rw [wdT_snoc]
      refine ⟨?_, ?_, ?_, h4, Nat.le_of_ble_eq_true rfl⟩
      · show (wdT x ys).ats + 1 = _
        rw [h1]; rfl
      · show (wdT x ys).ops + 0 + 1 = _
        rw [h2]; rfl
      · show max (wdT x ys).dep 0 + 1 ≤ ys.length + 1
        omega
  exact key _ xs rfl
def ct_machine_of (K : PySem.W.Frag) : Ct := Ct1 fun a ka out => MoR K a (fun u => Rt (McD K (mcT u 0)) []) out ∧ ka = []
section
variable {P : Program} {w : World} {K : PySem.W.Frag} {mg : Str → Option Value} {base : Heap}
theorem ok_machine_of (T : Tx K mg) (F_made_machine : Fn P w K mg base 24 (He.ga K "made_machine") ["tree"] (ct_made_machine K)) (F_as_pattern : Fn P w K mg base 8 (He.ga K "as_pattern") ["thing"] (ct_as_pattern K)) : Fn P w K mg base 26 (He.ga K "machine_of") ["thing"] (ct_machine_of K) := by
  obtain ⟨fd, F⟩ := T.d_machine_of
  refine fn_ok F sc_machine_of (fun _ _ _ _ _ _ us hl => match us, hl with | [_], _ => rfl) ct1_len (fun cdv A outer s H E hr => ⟨_, (pss_one (ps_ret (pe_call (F_made_machine.up (by decide)).ok hr rfl T.g_made_machine.1 T.g_made_machine.2 (F_made_machine.up (by decide)).bn .nil (pass_own rfl rfl rfl rfl) (pa_cons (pe_fld (pe_call (F_as_pattern.up (by decide)).ok hr rfl T.g_as_pattern.1 T.g_as_pattern.2 (F_as_pattern.up (by decide)).bn .nil (pass_own rfl rfl rfl rfl) (pa_cons (pv 0) pa_nil)) rfl) pa_nil)))), fun ws ka out B F0 Q hC hR hX => ?_⟩)
  obtain ⟨a, rfl, ⟨t, ds, l, hz, hd, rfl⟩ | ⟨u, rfl, hd, sm, ha, rfl⟩, rfl⟩ := hC
  rotate_left
  · exact g_ret hR (ev_callP (ea1 (ev_fld (ev_callP (d := PaD K (u.d false)) (ea1 (ev_var rfl)) ⟨_, rfl, .inr ⟨u, rfl, hd, sm, ha, rfl⟩, rfl⟩) .v T.cl_Pattern T.na_Pattern_tree rfl)) ⟨_, rfl, _, rfl, hd, sm, rfl, rfl⟩) ⟨rfl, rfl⟩
  match ds, l, hz, hd, hX, hR with
  | [], l, _, hd, hX, _ => exact g_retP0 hX (evx0_arg (evx0_fld (evx0_call (k2 := []) (kr := []) (k3 := []) (ea1 (ev_var rfl)) ⟨_, rfl, .inl ⟨t, [], l, Nat.zero_le _, hd, rfl⟩, rfl⟩ rfl))) ⟨rfl, rfl⟩
  | d :: r, l, hz, hd, hX, hR =>
    cases h : (d :: r).find? (fun d => !isNmD d) with
    | some e =>
      have ex : ∀ P, apOut K P (d :: r) = Xt (He.ga K "BadName") [("name", e)] [] := fun P => by unfold apOut; rw [h]
      rw [ex] at hX
      exact g_retPX hX (evx_arg (evx_fld (evx_call (k2 := []) (kr := []) (k3 := []) (ea1 (ev_var rfl)) ⟨_, rfl, .inl ⟨t, _, l, by omega, hd, (ex _).symm⟩, rfl⟩ rfl))) ⟨rfl, rfl⟩
    | none =>
      have ex : ∀ P, apOut K P (d :: r) = P (wdT (strN d) (r.map strN)) := fun P => by unfold apOut; rw [h]
      rw [ex] at hR
      rw [List.length_cons] at hz
      obtain ⟨h1, h2, h3, h4⟩ := wd_ats (strN d) (r.map strN)
      rw [List.length_map] at h1 h2 h3
      have sm : (wdT (strN d) (r.map strN)).sm := by
        refine sm_of (n := 8) h4 (by omega) (by decide) ?_
        calc (wdT (strN d) (r.map strN)).ops * (8 * 8) ≤ 7 * (8 * 8) := Nat.mul_le_mul_right _ (by omega)
          _ ≤ 90000 := by decide
      exact g_ret hR (ev_callP (ea1 (ev_fld (ev_callP (d := PaD K ((wdT (strN d) (r.map strN)).d false)) (ea1 (ev_var rfl)) ⟨_, rfl, .inl ⟨t, _, l, by rw [List.length_cons]; omega, hd, (ex (fun u => Rt (PaD K (u.d false)) [])).symm⟩, rfl⟩) .v T.cl_Pattern T.na_Pattern_tree rfl)) ⟨_, rfl, _, rfl, by omega, sm, rfl, rfl⟩) ⟨rfl, rfl⟩
end
/-- what is compared: a pattern, or a tuple of names that stands for its walk -/
def WiR (K : PySem.W.Frag) (a : W) (t : Tr) : Prop := (a = .val (PaD K (t.d false)) ∧ t.dep < 8 ∧ t.sm ∧ t.ats ≤ 10) ∨ ∃ x xs, a = .val (.tup (stD (x :: xs))) ∧ t = wdT x xs ∧ xs.length ≤ 7 ∧ ∀ n ∈ x :: xs, isNm n = true
theorem wi_mo {K : PySem.W.Frag} {a : W} {t : Tr} (h : WiR K a t) : MoR K a (fun u => Rt (McD K (mcT u 0)) []) (Rt (McD K (mcT t 0)) []) := by
  rcases h with ⟨rfl, h1, h2, h3⟩ | ⟨x, xs, rfl, rfl, hl, hn⟩
  · exact .inr ⟨t, rfl, h1, h2, h3, rfl⟩
  · obtain ⟨n1, n2⟩ := names_ok hn
    refine .inl ⟨true, stD (x :: xs), .vt, by rw [stD_len, List.length_cons]; omega, n1, ?_⟩
    have e : (stD (x :: xs)).find? (fun d => !isNmD d) = none := List.find?_eq_none.mpr fun d hd => by rw [n2 d hd]; exact Bool.false_ne_true
    have e2 : (stD xs).map strN = xs := by
      unfold stD
      rw [List.map_map]
      exact List.map_id'' (fun _ => rfl) xs
    show _ = match stD (x :: xs), (stD (x :: xs)).find? (fun d => !isNmD d) with
      | [], _ => X0 (He.ga K "EmptyWalk") []
      | d :: r, none => Rt (McD K (mcT (wdT (strN d) (r.map strN)) 0)) []
      | _ :: _, some d => Xt (He.ga K "BadName") [("name", d)] []
    rw [e]
    show Rt (McD K (mcT (wdT x xs) 0)) [] = Rt (McD K (mcT (wdT x ((stD xs).map strN)) 0)) []
    rw [e2]
open Classical in
/-- each word of the one is one of the other -/
noncomputable def wiB (t u : Tr) : Bool := decide (∀ w, Lg t w → Lg u w)
open Classical in
theorem wi_iff {t u : Tr} : wiB t u = true ↔ ∀ w, Lg t w → Lg u w := decide_eq_true_iff
theorem pa_wi {t u : Tr} {r : Option (List Str)} (h : PaR t u true r) : isNonD (rwD r) = wiB t u := by
  cases r with
  | some w =>
    obtain ⟨h | ⟨h, _⟩, _⟩ := h
    · exact (Bool.eq_false_iff.mpr fun z => h.2 (wi_iff.mp z _ h.1)).symm
    · cases h
  | none =>
    refine (wi_iff.mpr fun w hw => ?_).symm
    refine Classical.byContradiction fun z => ?_
    exact h w (.inl ⟨hw, z⟩)
def ct_within (K : PySem.W.Frag) : Ct := Ct2 fun a b ka out => ∃ t u c, WiR K a t ∧ WiR K b u ∧ LpOk t u c ∧ ka = [] ∧ out = Rt (.bl (wiB t u)) []
section
variable {P : Program} {w : World} {K : PySem.W.Frag} {mg : Str → Option Value} {base : Heap}
theorem ok_within (T : Tx K mg) (F_least_parting : Fn P w K mg base 8 (He.ga K "least_parting") ["one", "two", "is_one_sided"] (ct_least_parting K)) (F_machine_of : Fn P w K mg base 26 (He.ga K "machine_of") ["thing"] (ct_machine_of K)) : Fn P w K mg base 28 (He.ga K "within") ["one", "two"] (ct_within K) := by
  obtain ⟨fd, F⟩ := T.d_within
  refine fn_ok F sc_within (fun _ _ _ _ _ _ us hl => match us, hl with | [_, _], _ => rfl) ct2_len (fun cdv A outer s H E hr => ⟨_, (pss_cons (ps_set (i := 2) sc_within.nd rfl (by first | exact Or.inl rfl | exact Or.inr rfl) (pe_call (F_machine_of.up (by decide)).ok hr rfl T.g_machine_of.1 T.g_machine_of.2 (F_machine_of.up (by decide)).bn .nil (pass_own rfl rfl rfl rfl) (pa_cons (pv 0) pa_nil)))
      (pss_one (ps_ret (pe_cmpR op_isN1 (pe_call (F_least_parting.up (by decide)).ok hr rfl T.g_least_parting.1 T.g_least_parting.2 (F_least_parting.up (by decide)).bn .nil (pass_own rfl rfl rfl rfl) (pa_cons (pv 2) (pa_cons (pe_call (F_machine_of.up (by decide)).ok hr rfl T.g_machine_of.1 T.g_machine_of.2 (F_machine_of.up (by decide)).bn .nil (pass_own rfl rfl rfl rfl) (pa_cons (pv 1) pa_nil)) (pa_cons pe_bl pa_nil)))) pe_non (nomark _))))), fun ws ka out B F0 Q hC hR hX => ?_⟩)
  obtain ⟨a, b, rfl, t, u, c, ha, hb, lp, rfl, rfl⟩ := hC
  refine q_asg (ev_callP (ea1 (ev_var rfl)) ⟨_, rfl, wi_mo ha, rfl⟩) ?_
  refine g_ret hR (ev_noneR (k1 := []) (evr_call (k1 := []) [] (ea3 (ev_var rfl) (ev_callP (ea1 (ev_var rfl)) ⟨_, rfl, wi_mo hb, rfl⟩) ev_bl) ⟨_, _, _, rfl, t, u, true, c, rfl, rfl, rfl, lp, rfl, rfl⟩ (fun o k ⟨_, r, e, _⟩ => ⟨_, e⟩)) ?_) ⟨rfl, rfl⟩
  rintro w k ⟨d, k2, ⟨rfl, r, e, hp, _⟩, rfl, rfl⟩
  cases e
  exact ⟨⟨_, rfl, pa_wi hp⟩, List.nil_sublist _⟩
end
def ct_parting (K : PySem.W.Frag) : Ct := Ct2 fun a b ka out => ∃ t u c, WiR K a t ∧ WiR K b u ∧ LpOk t u c ∧ ka = [] ∧ out = fun o k => k = [] ∧ ∃ r, o = .ret (rwD r) ∧ PaR t u false r ∧ PaN t u c r
section
variable {P : Program} {w : World} {K : PySem.W.Frag} {mg : Str → Option Value} {base : Heap}
theorem ok_parting (T : Tx K mg) (F_least_parting : Fn P w K mg base 8 (He.ga K "least_parting") ["one", "two", "is_one_sided"] (ct_least_parting K)) (F_machine_of : Fn P w K mg base 26 (He.ga K "machine_of") ["thing"] (ct_machine_of K)) : Fn P w K mg base 28 (He.ga K "parting") ["one", "two"] (ct_parting K) := by
  obtain ⟨fd, F⟩ := T.d_parting
  refine fn_ok F sc_parting (fun _ _ _ _ _ _ us hl => match us, hl with | [_, _], _ => rfl) ct2_len (fun cdv A outer s H E hr => ⟨_, (pss_cons (ps_set (i := 2) sc_parting.nd rfl (by first | exact Or.inl rfl | exact Or.inr rfl) (pe_call (F_machine_of.up (by decide)).ok hr rfl T.g_machine_of.1 T.g_machine_of.2 (F_machine_of.up (by decide)).bn .nil (pass_own rfl rfl rfl rfl) (pa_cons (pv 0) pa_nil)))
      (pss_one (ps_ret (pe_call (F_least_parting.up (by decide)).ok hr rfl T.g_least_parting.1 T.g_least_parting.2 (F_least_parting.up (by decide)).bn .nil (pass_own rfl rfl rfl rfl) (pa_cons (pv 2) (pa_cons (pe_call (F_machine_of.up (by decide)).ok hr rfl T.g_machine_of.1 T.g_machine_of.2 (F_machine_of.up (by decide)).bn .nil (pass_own rfl rfl rfl rfl) (pa_cons (pv 1) pa_nil)) (pa_cons pe_bl pa_nil))))))), fun ws ka out B F0 Q hC hR hX => ?_⟩)
  obtain ⟨a, b, rfl, t, u, c, ha, hb, lp, rfl, rfl⟩ := hC
  refine q_asg (ev_callP (ea1 (ev_var rfl)) ⟨_, rfl, wi_mo ha, rfl⟩) ?_
  exact g_retS [] hR (ea3 (ev_var rfl) (ev_callP (ea1 (ev_var rfl)) ⟨_, rfl, wi_mo hb, rfl⟩) ev_bl) (k1 := []) ⟨_, _, _, rfl, t, u, false, c, rfl, rfl, rfl, lp, rfl, rfl⟩ (fun o k ⟨_, r, e, _⟩ => ⟨_, e⟩) (fun d k ⟨e, h⟩ => by subst e; exact ⟨rfl, h⟩)
end
theorem ev_lenK {K : PySem.W.Frag} {ro : Ro} {ka k1 : Cells} {te : TE} {p : Addr} {ns : List Int} (h : EvD K te ro ka (.val (.adr p)) k1) (hk : ∀ H, SqL K H p (ns.map V.int)) : EvD K (tCB (rLenU K) (tCons te tNil)) ro ka (.val (.int ns.length)) k1 := fun B F0 ta sg H Q e q => h B F0 ta sg H _ e fun v H1 e1 => .inl ⟨p, ns.map V.int, by rw [e1.tm_adr List.mem_cons_self], .inl (hk H1), by
  rw [List.length_map]
  exact q _ _ (e1.pop.push_imm fun _ => rfl)⟩
theorem ev_ixK {K : PySem.W.Frag} {ro : Ro} {ka k1 k2 : Cells} {te tf : TE} {p : Addr} {ns : List Int} {i : Nat} {z : Int} (h : EvD K te ro ka (.val (.adr p)) k1) (h2 : EvD K tf ro k1 (.val (.int i)) k2) (hk : ∀ H, SqL K H p (ns.map V.int)) (hz : ns[i]? = some z) : EvD K (tOp (rIx K) te tf) ro ka (.val (.int z)) k2 := ev_op h h2 fun B F0 ro ta sg H u v Q e h1 h2 q =>
  .inl ⟨p, ns.map V.int, i, .int z, e.tm_adr h1, e.tm_int h2, hk H, atI_nat (by rw [List.getElem?_map, hz]; rfl), q _ _ (e.push_imm fun _ => rfl)⟩
def ct_law_cell (K : PySem.W.Frag) : Ct := Ct2 fun a b ka out => ∃ ns, ∃ k : Nat, Scr K a ns ∧ b = .val (.int k) ∧ ka = [] ∧ out = Rt (.int (ns.getD k 0)) []
section
variable {P : Program} {w : World} {K : PySem.W.Frag} {mg : Str → Option Value} {base : Heap}
theorem ok_law_cell (T : Tx K mg) : Fn P w K mg base 4 (He.ga K "_law_cell") ["_law_script", "_law_k"] (ct_law_cell K) := by
  obtain ⟨fd, F⟩ := T.d_law_cell
  refine fn_ok F sc_law_cell (fun _ _ _ _ _ _ us hl => match us, hl with | [_, _], _ => rfl) ct2_len (fun cdv A outer s H E hr => ⟨_, (pss_cons (ps_if (pt_cmpR op_lt (pv 1) (pe_callB call_lenU rfl T.n_len (by decide +kernel) (pa_cons (pv 0) pa_nil)) (nomark _))
      (pss_one (ps_ret (pe_ix ix_seq (pv 0) (pv 1) fun _ _ => rfl)))
      pss_nil)
      (pss_one (ps_ret pe_int))), fun ws ka out B F0 Q hC hR hX => ?_⟩)
  obtain ⟨a, b, rfl, ns, k, hs, rfl, rfl, rfl⟩ := hC
  have out0 : ¬ k < ns.length → ns.getD k 0 = 0 := fun h => by
    rw [List.getD_eq_getElem?_getD, List.getElem?_eq_none (by omega)]
    rfl
  have in0 : k < ns.length → ns[k]? = some (ns.getD k 0) := fun h => by
    rw [List.getD_eq_getElem?_getD, List.getElem?_eq_getElem h]
    rfl
  rcases hs with rfl | ⟨p, rfl, hk⟩
  · have hl : (inD ns).length = ns.length := List.length_map ..
    refine q_when (et_test (ev_lt (ev_var rfl) (ev_len (ev_var rfl) .vl))) (fun hb => g_ret hR (ev_ixV (d := .int (ns.getD k 0)) (ev_var rfl) (ev_var rfl) .vl (atI_nat ?_)) ⟨rfl, rfl⟩) (fun hb => g_ret hR ev_int ⟨?_, rfl⟩)
    · rw [decide_eq_true_eq, hl] at hb
      unfold inD
      rw [List.getElem?_map, in0 (by omega)]
      rfl
    · rw [decide_eq_false_iff_not, hl] at hb
      rw [out0 (by omega)]
  · refine q_when (et_test (ev_lt (ev_var rfl) (ev_lenK (ev_var rfl) hk))) (fun hb => g_ret hR (ev_ixK (ev_var rfl) (ev_var rfl) hk (in0 ?_)) ⟨rfl, rfl⟩) (fun hb => g_ret hR ev_int ⟨?_, rfl⟩)
    · rw [decide_eq_true_eq] at hb
      omega
    · rw [decide_eq_false_iff_not] at hb
      rw [out0 (by omega)]
end
def ct_law_pool (K : PySem.W.Frag) : Ct := Ct1 fun a ka out => ∃ z, a = .val (.int z) ∧ ka = [] ∧ out = Nt (.lst (plOf z).ds) []
section
variable {P : Program} {w : World} {K : PySem.W.Frag} {mg : Str → Option Value} {base : Heap}
theorem ok_law_pool (T : Tx K mg) : Fn P w K mg base 4 (He.ga K "_law_pool") ["_law_cell_here"] (ct_law_pool K) := by
  obtain ⟨fd, F⟩ := T.d_law_pool
  refine fn_ok F sc_law_pool (fun _ _ _ _ _ _ us hl => match us, hl with | [_], _ => rfl) ct1_len (fun cdv A outer s H E hr => ⟨_, (pss_cons (ps_set (i := 1) sc_law_pool.nd rfl (by first | exact Or.inl rfl | exact Or.inr rfl) (pe_op op_mulU pe_int (pv 0)))
      (pss_cons (ps_if (pt_cmpR op_lt (pv 0) pe_int (nomark _))
      (pss_one (ps_set (i := 1) sc_law_pool.nd rfl (by first | exact Or.inl rfl | exact Or.inr rfl) (pe_op op_sub (pe_op op_sub pe_int (pe_op op_mulU pe_int (pv 0))) pe_int)))
      pss_nil)
      (pss_cons (ps_if (pt_cmpR op_ge (pv 1) (pe_op op_pow pe_int pe_int) (nomark _))
      (pss_one (ps_ret (pe_lst (pa_cons (pv 1) (pa_cons (pe_op op_mod (pe_callTy call_intU rfl T.n_int (by decide +kernel) (pa_cons (pv 1) pa_nil)) pe_int) (pa_cons pe_int pa_nil))))))
      pss_nil)
      (pss_one (ps_ret (pe_lst (pa_cons pe_int (pa_cons (pe_op op_mod (pe_callTy call_intU rfl T.n_int (by decide +kernel) (pa_cons (pv 1) pa_nil)) pe_int) (pa_cons pe_int pa_nil))))))))), fun ws ka out B F0 Q hC hR hX => ?_⟩)
  obtain ⟨a, rfl, z, rfl, rfl, rfl⟩ := hC
  refine q_asg (ev_mulL ev_int (ev_var rfl)) ?_
  refine q_whenI (fun ro ka => ro = [some (.val (.int z)), some (.val (.int (fldZ z)))] ∧ ka = []) (et_test (ev_lt (ev_var rfl) ev_int)) (fun hb nx k => g_asg (ev_subI (ev_subI ev_int (ev_mulL ev_int (ev_var rfl))) ev_int) (k _ _ ⟨?_, rfl⟩)) (fun hb => ⟨?_, rfl⟩) ?_
  · rw [decide_eq_true_eq] at hb
    unfold fldZ
    rw [if_pos hb]
    rfl
  · rw [decide_eq_false_iff_not] at hb
    unfold fldZ
    rw [if_neg hb]
    rfl
  · rintro ro2 ka2 ⟨rfl, rfl⟩
    refine q_when (et_test (ev_ge (ev_var rfl) (ev_powI ev_int ev_int ⟨by decide, by decide, by decide⟩))) (fun hb => g_retC hR (evn_lst (ds := (plOf z).ds) (ea3 (ev_var rfl) (ev_modI (ev_int1 (ev_var rfl)) ev_int (by decide)) ev_int |>.to ?_) (show 3 ≤ 100000 by decide)) (fun a => ⟨a, rfl, rfl⟩)) (fun hb => g_retC hR (evn_lst (ds := (plOf z).ds) (ea3 ev_int (ev_modI (ev_int1 (ev_var rfl)) ev_int (by decide)) ev_int |>.to ?_) (show 3 ≤ 100000 by decide)) (fun a => ⟨a, rfl, rfl⟩))
    · rw [decide_eq_true_eq] at hb
      have hb : fldZ z ≥ 10 ^ 18 := hb
      unfold plOf
      rw [if_pos hb]
      rfl
    · rw [decide_eq_false_iff_not] at hb
      have hb : ¬ fldZ z ≥ 10 ^ 18 := hb
      unfold plOf
      rw [if_neg hb]
      rfl
end
def ct_law_take (K : PySem.W.Frag) : Ct := Ct2 fun s b ka out => ∃ a p m, s = .val (.adr a) ∧ b = .val (.int m) ∧ ka = [(a, .lst (Pl.ds p))] ∧ p.Ok 1000000 ∧ 0 < m ∧ m ≤ 100000000 ∧ out = Rt (.int (tk p m).1) [(a, .lst (tk p m).2.ds)]
/-- a draw from the pool that is the first cell -/
theorem ev_take {K : PySem.W.Frag} {ro : Ro} {ka kr : Cells} {te tf : TE} {a : Addr} {p : Pl} {m : Int} {E : XK} {k1 : Cells} (h : EvD K te ro ka (.val (.adr a)) k1) (h2 : EvD K tf ro k1 (.val (.int m)) ((a, .lst p.ds) :: kr)) (hp : p.Ok 1000000) (h0 : 0 < m) (h1 : m ≤ 100000000) :
    EvD K (tCall (spC K (ct_law_take K)) [] E (tCons te (tCons tf tNil))) ro ka (.val (.int (tk p m).1)) ((a, .lst (tk p m).2.ds) :: kr) := ev_call1 (ea2 h h2) ⟨_, _, rfl, a, p, m, rfl, rfl, rfl, hp, h0, h1, rfl⟩
/-- a thing drawn out of texts, the pool behind it -/
def drawS (p : Pl) (ss : List Str) : Str := ss.getD (tk p ((stD ss).length : Nat)).1.toNat ""
def drawP (p : Pl) (ss : List Str) : Pl := (tk p ((stD ss).length : Nat)).2
theorem draw_lt {ss : List Str} (h : ss ≠ []) (p : Pl) : (0 : Int) < ((stD ss).length : Nat) ∧ 0 ≤ (tk p ((stD ss).length : Nat)).1 ∧ (tk p ((stD ss).length : Nat)).1.toNat < ss.length := by
  have hp := List.length_pos_iff.mpr h
  have hL : (0 : Int) < ((stD ss).length : Nat) := by rw [stD_len]; omega
  have t1 := tk_lt p hL
  refine ⟨hL, t1.1, ?_⟩
  have h1 := t1.1
  have h2 := t1.2
  rw [stD_len] at h1 h2 ⊢
  omega
theorem draw_eq {ss : List Str} (h : ss ≠ []) (p : Pl) : ss[(tk p ((stD ss).length : Nat)).1.toNat]? = some (drawS p ss) := by
  unfold drawS
  rw [List.getD_eq_getElem?_getD, List.getElem?_eq_getElem (draw_lt h p).2.2]
  rfl
theorem drawS_mem {ss : List Str} (h : ss ≠ []) (p : Pl) : drawS p ss ∈ ss := List.mem_of_getElem? (draw_eq h p)
theorem drawP_ok {ss : List Str} {p : Pl} {n : Int} (hp : p.Ok n) (h : ss ≠ []) : (drawP p ss).Ok (n + 1) := tk_ok hp (draw_lt h p).1
theorem ev_draw {K : PySem.W.Frag} {ro : Ro} {ka kr k0 k1 : Cells} {te tp tl : TE} {a : Addr} {p : Pl} {ss : List Str} {E : XK} (h1 : EvD K te ro ka (.val (.lst (stD ss))) k0) (h2 : EvD K tp ro k0 (.val (.adr a)) k1) (h3 : EvD K tl ro k1 (.val (.lst (stD ss))) ((a, .lst p.ds) :: kr)) (hp : p.Ok 1000000) (h : ss ≠ []) (hl : ss.length ≤ 100000) :
    EvD K (tOp (rIx K) te (tCall (spC K (ct_law_take K)) [] E (tCons tp (tCons (tCB (rLenU K) (tCons tl tNil)) tNil)))) ro ka (.val (.str (drawS p ss))) ((a, .lst (drawP p ss).ds) :: kr) :=
  ev_ixV h1 (ev_take h2 (ev_len h3 .vl) hp (draw_lt h p).1 (by rw [stD_len]; omega)) .vl (atZ (draw_lt h p).2.1 (stD_get (draw_eq h p)))
section
variable {P : Program} {w : World} {K : PySem.W.Frag} {mg : Str → Option Value} {base : Heap}
theorem ok_law_take (T : Tx K mg) : Fn P w K mg base 4 (He.ga K "_law_take") ["_law_pool_here", "_law_many"] (ct_law_take K) := by
  obtain ⟨fd, F⟩ := T.d_law_take
  refine fn_ok F sc_law_take (fun _ _ _ _ _ _ us hl => match us, hl with | [_, _], _ => rfl) ct2_len (fun cdv A outer s H E hr => ⟨_, (pss_cons (ps_if (pt_cmpR op_gt (pe_ix ix_seq (pv 0) pe_int fun _ _ => rfl) pe_int (nomark _))
      (pss_cons (ps_set (i := 2) sc_law_take.nd rfl (by first | exact Or.inl rfl | exact Or.inr rfl) (pe_op op_mod (pe_callTy call_intU rfl T.n_int (by decide +kernel) (pa_cons (pe_ix ix_seq (pv 0) pe_int fun _ _ => rfl) pa_nil)) (pv 1)))
      (pss_cons (ps_asg (pe_op op_fdiv (pe_ix ix_seq (pv 0) pe_int fun _ _ => rfl) (pv 1)) (pg_sub (pv 0) pe_int set_list))
      (pss_one (ps_ret (pv 2)))))
      pss_nil)
      (pss_cons (ps_asg (pe_op op_addU (pe_ix ix_seq (pv 0) pe_int fun _ _ => rfl) pe_int) (pg_sub (pv 0) pe_int set_list))
      (pss_cons (ps_set (i := 3) sc_law_take.nd rfl (by first | exact Or.inl rfl | exact Or.inr rfl) (pe_op op_mod (pe_callTy call_intU rfl T.n_int (by decide +kernel) (pa_cons (pe_op op_pow (pe_op op_addU (pe_op op_addU (pe_ix ix_seq (pv 0) pe_int fun _ _ => rfl) (pe_op op_mulU pe_int (pe_ix ix_seq (pv 0) pe_int fun _ _ => rfl))) pe_int) pe_int) pa_nil)) pe_int))
      (pss_one (ps_ret (pe_op op_mod (pe_op op_mod (pe_callTy call_intU rfl T.n_int (by decide +kernel) (pa_cons (pe_op op_mulU (pe_op op_addU (pv 3) (pe_ix ix_seq (pv 0) pe_int fun _ _ => rfl)) pe_int) pa_nil)) pe_int) (pv 1))))))), fun ws ka out B F0 Q hC hR hX => ?_⟩)
  obtain ⟨s1, b, rfl, a, p, m, rfl, rfl, rfl, hp, h0, h1, rfl⟩ := hC
  obtain ⟨p1, p2, p3, p4, p5⟩ := hp
  have i2 : atI (Pl.ds p) 2 = some (.int p.c) := atI_nat (j := 2) rfl
  have i1 : atI (Pl.ds p) 1 = some (.int p.b) := atI_nat (j := 1) rfl
  refine q_when (et_test (ev_gt (ev_ixV (ev_var rfl) ev_int (.ce 0 rfl) at0) ev_int)) (fun hb => ?_) (fun hb => ?_)
  · rw [decide_eq_true_eq] at hb
    refine q_asg (ev_modI (ev_int1 (ev_ixV (ev_var rfl) ev_int (.ce 0 rfl) at0)) (ev_var rfl) h0) ?_
    refine q_seti (j := 0) (ix := 0) (ev_divI (ev_ixV (ev_var rfl) ev_int (.ce 0 rfl) at0) (ev_var rfl) ⟨h0, by omega⟩) (ev_var rfl) ev_int rfl rfl ?_
    refine g_ret hR (ev_var rfl) ?_
    unfold tk
    rw [if_pos hb]
    exact ⟨rfl, rfl⟩
  · rw [decide_eq_false_iff_not] at hb
    refine q_seti (j := 0) (ix := 2) (ev_addI (ev_ixV (ev_var rfl) ev_int (.ce 0 rfl) i2) ev_int) (ev_var rfl) ev_int rfl rfl ?_
    refine q_asg (ev_modI (ev_int1 (ev_powI (i := p.b + 7919 * (p.c + 1) + 104729) (ev_addI (ev_addI (ev_ixV (ev_var rfl) ev_int (.ce 0 rfl) (atI_nat (j := 1) rfl)) (ev_mulL ev_int (ev_ixV (ev_var rfl) ev_int (.ce 0 rfl) (atI_nat (j := 2) rfl)))) ev_int) ev_int ⟨by decide, by decide, ?_⟩)) ev_int (by decide)) ?_
    · omega
    refine g_ret hR (ev_modI (ev_modI (ev_int1 (ev_mulR (ev_addI (ev_var rfl) (ev_ixV (ev_var rfl) ev_int (.ce 0 rfl) (atI_nat (j := 2) rfl))) ev_int)) ev_int (by decide)) (ev_var rfl) h0) ?_
    unfold tk
    rw [if_neg hb]
    exact ⟨rfl, rfl⟩
end
structure WdOk (l : List Nat) (k : Nat) : Prop where
  hd : ∃ c, l.head? = some c ∧ c ∈ letL
  sg : ∀ x ∈ l, x ∈ letL ++ digL
  len : l.length = k
theorem head_take {l : List Nat} {n : Nat} (h : 0 < n) : (l.take n).head? = l.head? := by
  cases l with
  | nil => simp
  | cons c r =>
    cases n with
    | zero => omega
    | succ n => rfl
theorem head_app {l m : List Nat} {c : Nat} (h : l.head? = some c) : (l ++ m).head? = some c := by
  cases l with
  | nil => cases h
  | cons d r => exact h
theorem nm_mid {l st : List Nat} {c p : Nat} (hl : WdOk l 8) (r : Nat) (hr : r < 8) (hst : st = l.take r) (hp : p ≤ st.length) (h0 : p = 0 → c ∈ letL) (hc : c ∈ letL ++ digL) : isNm (tx (st.take p ++ [c] ++ st.drop p)) = true := by
  subst hst
  refine nm_of ?_ (fun x hx => ?_) ?_
  · by_cases hp0 : p = 0
    · subst hp0
      exact ⟨c, by simp, h0 rfl⟩
    · obtain ⟨d, h1, h2⟩ := hl.hd
      rw [List.length_take] at hp
      refine ⟨d, head_app (head_app ?_), h2⟩
      rw [head_take (by omega), head_take (by omega)]
      exact h1
  · rcases List.mem_append.mp hx with hx | hx
    · rcases List.mem_append.mp hx with hx | hx
      · exact hl.sg x (List.mem_of_mem_take (List.mem_of_mem_take hx))
      · rw [List.mem_singleton.mp hx]; exact hc
    · exact hl.sg x (List.mem_of_mem_take (List.mem_of_mem_drop hx))
  · rw [List.length_append, List.length_append, List.length_take, List.length_drop, List.length_take, hl.len]
    simp
    omega
theorem key_snoc {β : Type} {key : Str → β} {f : Nat → β} {ss : List Str} {x : Str} (h : ∀ j s, ss[j]? = some s → key s = f j) (hx : key x = f ss.length) : ∀ j s, (ss ++ [x])[j]? = some s → key s = f j := fun j s e => by
  rcases Nat.lt_trichotomy j ss.length with q | q | q
  · rw [List.getElem?_append_left q] at e
    exact h j s e
  · subst q
    rw [List.getElem?_append_right (Nat.le_refl _), Nat.sub_self] at e
    cases e
    exact hx
  · rw [List.getElem?_append_right (by omega)] at e
    have := (List.getElem?_eq_some_iff.mp e).1
    rw [List.length_singleton] at this
    omega
theorem key_nd {β : Type} {key : Str → β} {f : Nat → β} {ss : List Str} (h : ∀ j s, ss[j]? = some s → key s = f j) (inj : ∀ i j, i < j → j < ss.length → f i ≠ f j) : ss.Nodup := by
  refine List.pairwise_iff_getElem.mpr fun i j hi hj hij e => inj i j hij hj ?_
  rw [← h i _ (List.getElem?_eq_getElem hi), ← h j _ (List.getElem?_eq_getElem hj), e]
theorem at_get {β : Type} {xs : List β} {i : Int} {x : β} (h0 : 0 ≤ i) (h : atI xs i = some x) : xs[i.toNat]? = some x := by
  unfold atI ixN at h
  rw [if_pos h0] at h
  by_cases q : i < xs.length
  · rw [if_pos q] at h
    exact h
  · rw [if_neg q] at h
    cases h
theorem let_nd : letL.Nodup := by decide
theorem sig_nd : (letL ++ digL).Nodup := by decide
theorem nd_inj {xs : List Nat} (h : xs.Nodup) {i j : Nat} (hi : i < xs.length) (hij : i ≠ j) : xs[i]? ≠ xs[j]? := fun e => by
  rw [List.getElem?_eq_getElem hi] at e
  obtain ⟨hj, e2⟩ := List.getElem?_eq_some_iff.mp e.symm
  exact hij ((List.getElem_inj h).mp e2).symm
def ct_law_names (K : PySem.W.Frag) : Ct := Ct2 fun s b ka out => ∃ a p n m, s = .val (.adr a) ∧ b = .val (.int m) ∧ ka = [(a, .lst (Pl.ds p))] ∧ p.Ok n ∧ 0 ≤ n ∧ n ≤ 900000 ∧ 0 ≤ m ∧ m ≤ 8 ∧
  out = fun o k => ∃ ss p', o = .ret (.lst (stD ss)) ∧ k = [(a, .lst (Pl.ds p'))] ∧ p'.Ok (n + 30) ∧ ss.length = m.toNat ∧ (∀ s ∈ ss, isNm s = true) ∧ ss.Nodup
section
variable {P : Program} {w : World} {K : PySem.W.Frag} {mg : Str → Option Value} {base : Heap}
theorem ok_law_names (T : Tx K mg) (F_law_take : Fn P w K mg base 4 (He.ga K "_law_take") ["_law_pool_here", "_law_many"] (ct_law_take K)) : Fn P w K mg base 6 (He.ga K "_law_names") ["_law_pool_here", "_law_many"] (ct_law_names K) := by
  obtain ⟨fd, F⟩ := T.d_law_names
  refine fn_ok F sc_law_names (fun _ _ _ _ _ _ us hl => match us, hl with | [_, _], _ => rfl) ct2_len (fun cdv A outer s H E hr => ⟨_, (pss_cons (ps_set (i := 2) sc_law_names.nd rfl (by first | exact Or.inl rfl | exact Or.inr rfl) pe_str)
      (pss_cons (ps_set (i := 3) sc_law_names.nd rfl (by first | exact Or.inl rfl | exact Or.inr rfl) (pe_op op_addU (pv 2) pe_str))
      (pss_cons (ps_set (i := 4) sc_law_names.nd rfl (by first | exact Or.inl rfl | exact Or.inr rfl) (pe_ix ix_seq (pv 2) (pe_call (F_law_take.up (by decide)).ok hr rfl T.g_law_take.1 T.g_law_take.2 (F_law_take.up (by decide)).bn .nil (pass_own rfl rfl rfl rfl) (pa_cons (pv 0) (pa_cons pe_int pa_nil))) fun _ _ => rfl))
      (pss_cons (ps_for (passes_of rfl) rfl (pi_range1 rfl T.n_range (pa_cons pe_int pa_nil)) (pg_name (i := 5) sc_law_names.nd rfl (by first | exact Or.inl rfl | exact Or.inr rfl)) (pss_one (ps_set (i := 4) sc_law_names.nd rfl (by first | exact Or.inl rfl | exact Or.inr rfl) (pe_op op_addU (pv 4) (pe_ix ix_seq (pv 3) (pe_call (F_law_take.up (by decide)).ok hr rfl T.g_law_take.1 T.g_law_take.2 (F_law_take.up (by decide)).bn .nil (pass_own rfl rfl rfl rfl) (pa_cons (pv 0) (pa_cons pe_int pa_nil))) fun _ _ => rfl)))))
      (pss_cons (ps_set (i := 6) sc_law_names.nd rfl (by first | exact Or.inl rfl | exact Or.inr rfl) (pe_call (F_law_take.up (by decide)).ok hr rfl T.g_law_take.1 T.g_law_take.2 (F_law_take.up (by decide)).bn .nil (pass_own rfl rfl rfl rfl) (pa_cons (pv 0) (pa_cons pe_int pa_nil))))
      (pss_cons (ps_set (i := 7) sc_law_names.nd rfl (by first | exact Or.inl rfl | exact Or.inr rfl) (pe_call (F_law_take.up (by decide)).ok hr rfl T.g_law_take.1 T.g_law_take.2 (F_law_take.up (by decide)).bn .nil (pass_own rfl rfl rfl rfl) (pa_cons (pv 0) (pa_cons pe_int pa_nil))))
      (pss_cons (ps_if (pt_cmpR (op_eqP (by have := (hr).units; exact this)) (pv 6) pe_int (nomark _))
      (pss_one (ps_ret (pe_lc (te := (tSl (rSlU K) (tVar 4) tNoPart (tPart (tOp (rAddU K) (tVar 5) (tC (.int 1)))))) (tt := tYes) (own := [("_law_k", 5)]) rfl sc_law_names.nd (pi_range1 rfl T.n_range (pa_cons (pv 1) pa_nil)) (blk_ok ["_law_pool_here", "_law_many", "_law_letters", "_law_signs", "_law_word", "_law_k", "_law_kind", "_law_start", "_law_stem", "_law_place", "_law_told", "_law_names_here", "_law_sign"] (defScope s_law_names) rfl rfl (by decide +kernel)) (fun _ _ _ _ _ => (pg_name (i := 5) sc_law_names.nd rfl (by first | exact Or.inl rfl | exact Or.inr rfl))) (fun _ _ _ _ _ => pts_nil) (fun _ _ _ _ _ => (pe_slice sl_U (pv 4) po_none (po_some (pe_op op_addU (pv 5) pe_int)))))))
      pss_nil)
      (pss_cons (ps_if (pt_cmpR (op_eqP (by have := (hr).units; exact this)) (pv 6) pe_int (nomark _))
      (pss_one (ps_ret (pe_lc (te := (tOp (rAddU K) (tOp (rIx K) (tVar 2) (tOp rModI (tOp (rAddU K) (tVar 7) (tOp rMulU (tC (.int 3)) (tVar 5))) (tC (.int 26)))) (tSl (rSlU K) (tVar 4) tNoPart (tPart (tCall (spC K (ct_law_take K)) [] (fun _ _ _ => False) (tCons (tVar 0) (tCons (tC (.int 8)) tNil))))))) (tt := tYes) (own := [("_law_k", 5)]) rfl sc_law_names.nd (pi_range1 rfl T.n_range (pa_cons (pv 1) pa_nil)) (blk_ok ["_law_pool_here", "_law_many", "_law_letters", "_law_signs", "_law_word", "_law_k", "_law_kind", "_law_start", "_law_stem", "_law_place", "_law_told", "_law_names_here", "_law_sign"] (defScope s_law_names) rfl rfl (by decide +kernel)) (fun _ _ _ _ _ => (pg_name (i := 5) sc_law_names.nd rfl (by first | exact Or.inl rfl | exact Or.inr rfl))) (fun _ _ _ _ _ => pts_nil) (fun _ _ _ _ _ => (pe_op op_addU (pe_ix ix_seq (pv 2) (pe_op op_mod (pe_op op_addU (pv 7) (pe_op op_mulU pe_int (pv 5))) pe_int) fun _ _ => rfl) (pe_slice sl_U (pv 4) po_none (po_some (pe_call (F_law_take.up (by decide)).ok hr rfl T.g_law_take.1 T.g_law_take.2 (F_law_take.up (by decide)).bn .nil passes_no (pa_cons (pv 0) (pa_cons pe_int pa_nil))))))))))
      pss_nil)
      (pss_cons (ps_set (i := 8) sc_law_names.nd rfl (by first | exact Or.inl rfl | exact Or.inr rfl) (pe_slice sl_U (pv 4) po_none (po_some (pe_call (F_law_take.up (by decide)).ok hr rfl T.g_law_take.1 T.g_law_take.2 (F_law_take.up (by decide)).bn .nil (pass_own rfl rfl rfl rfl) (pa_cons (pv 0) (pa_cons pe_int pa_nil))))))
      (pss_cons (ps_set (i := 9) sc_law_names.nd rfl (by first | exact Or.inl rfl | exact Or.inr rfl) (pe_call (F_law_take.up (by decide)).ok hr rfl T.g_law_take.1 T.g_law_take.2 (F_law_take.up (by decide)).bn .nil (pass_own rfl rfl rfl rfl) (pa_cons (pv 0) (pa_cons (pe_op op_addU (pe_callB call_lenU rfl T.n_len (by decide +kernel) (pa_cons (pv 8) pa_nil)) pe_int) pa_nil))))
      (pss_cons (ps_set (i := 10) sc_law_names.nd rfl (by first | exact Or.inl rfl | exact Or.inr rfl) (pe_ifExp (pt_cmpR (op_eqP (by have := (hr).units; exact this)) (pv 9) pe_int (nomark _)) (pv 2) (pv 3)))
      (pss_cons (ps_set (i := 11) sc_law_names.nd rfl (by first | exact Or.inl rfl | exact Or.inr rfl) (pe_lst pa_nil))
      (pss_cons (ps_for (passes_of rfl) rfl (pi_range1 rfl T.n_range (pa_cons (pv 1) pa_nil)) (pg_name (i := 5) sc_law_names.nd rfl (by first | exact Or.inl rfl | exact Or.inr rfl)) (pss_cons (ps_set (i := 12) sc_law_names.nd rfl (by first | exact Or.inl rfl | exact Or.inr rfl) (pe_ix ix_seq (pv 10) (pe_op op_mod (pe_op op_addU (pv 7) (pe_op op_mulU pe_int (pv 5))) (pe_callB call_lenU rfl T.n_len (by decide +kernel) (pa_cons (pv 10) pa_nil))) fun _ _ => rfl))
      (pss_one (ps_expr (pe_bm PySem.F.plainAttrs_list PySem.F.slot_list_append PySem.F.type_list_append mt_append (pv 11) (pa_cons (pe_op op_addU (pe_op op_addU (pe_slice sl_U (pv 8) po_none (po_some (pv 9))) (pv 12)) (pe_slice sl_U (pv 8) (po_some (pv 9)) po_none)) pa_nil))))))
      (pss_one (ps_ret (pv 11)))))))))))))))), fun ws ka out B F0 Q hC hR hX => ?_⟩)
  obtain ⟨s1, b1, rfl, a, p, n, m, rfl, rfl, rfl, hp, hn0, hn, hm0, hm, rfl⟩ := hC
  refine q_asg (ev_str.to (congrArg (fun z => W.val (.str z)) letters_tx)) ?_
  refine q_asg (ev_addT (ev_var rfl) (ev_str.to (congrArg (fun z => W.val (.str z)) digits_tx)) (by decide)) ?_
  have t0 := tk_lt p (m := 26) (by decide)
  obtain ⟨c0, hc0, hm1⟩ := sgn_at (l := letL) t0.1 (by rw [let_len]; exact t0.2)
  have hp1 : (tk p 26).2.Ok (n + 1) := tk_ok hp (by decide)
  refine q_asg (ev_ixT (ev_var rfl) (ev_take (kr := []) (ev_var rfl) ev_int (hp.up (by omega)) (by decide) (by decide)) (by decide) hc0) ?_
  refine q_forn (ei_range1 (ea1 ev_int) (by decide) (by decide)) (fun i ro ka => ∃ l p' v, ro = [some (.val (.adr a)), some (.val (.int m)), some (.val (.str (tx letL))), some (.val (.str (tx (letL ++ digL)))), some (.val (.str (tx l))), v, none, none, none, none, none, none, none] ∧ ka = [(a, .lst (Pl.ds p'))] ∧ p'.Ok (n + 1 + i) ∧ WdOk l (i + 1))
    ⟨[c0], _, none, rfl, rfl, hp1.up (by omega), ⟨c0, rfl, hm1⟩, fun x hx => by rw [List.mem_singleton.mp hx]; exact List.mem_append_left _ hm1, rfl⟩ (fun i ro ka _ => trivial) (fun i w ro2 ka2 ta' hw ⟨l, p', v, e1, e2, hp', hl⟩ => ?_) (fun ro2 ka2 ta' ⟨l, p1, v, e1, e2, hp1, hl⟩ _ => ?_)
  · subst e1 e2
    have hi : i < 7 := by
      have := (List.getElem?_eq_some_iff.mp hw).1
      rwa [List.length_map, List.length_range] at this
    have t1 := tk_lt p' (m := 36) (by decide)
    obtain ⟨c, hc, hm2⟩ := sgn_at (l := letL ++ digL) t1.1 (by rw [sig_len]; exact t1.2)
    refine g_asg (ev_addT (ev_var rfl) (ev_ixT (ev_var rfl) (ev_take (kr := []) (ev_var rfl) ev_int (hp'.up (by omega)) (by decide) (by decide)) (by decide) hc) (by rw [hl.len]; simp; omega)) (g_jp ⟨l ++ [c], _, _, rfl, rfl, (tk_ok hp' (by decide)).up (by push_cast; omega), ?_, fun x hx => ?_, by rw [List.length_append, hl.len]; rfl⟩)
    · obtain ⟨d, h1, h2⟩ := hl.hd
      exact ⟨d, head_app h1, h2⟩
    · rcases List.mem_append.mp hx with hx | hx
      · exact hl.sg x hx
      · rw [List.mem_singleton.mp hx]; exact hm2
  subst e1 e2
  rw [List.length_map, List.length_range] at hp1 hl
  have hl : WdOk l 8 := hl
  have hp1 : p1.Ok (n + 8) := hp1.up (by show n + 1 + 7 ≤ n + 8; omega)
  have hp2 := tk_ok hp1 (m := 4) (by decide)
  have hp3 := tk_ok hp2 (m := 36) (by decide)
  have t4 := tk_lt p1 (m := 4) (by decide)
  have t5 := tk_lt (tk p1 4).2 (m := 36) (by decide)
  have hl8 : l.length = 8 := hl.len
  refine q_asg (ev_take (kr := []) (ev_var rfl) ev_int (hp1.up (by omega)) (by decide) (by decide)) ?_
  refine q_asg (ev_take (kr := []) (ev_var rfl) ev_int (hp2.up (by omega)) (by decide) (by decide)) ?_
  generalize tk (tk p1 4).2 36 = q3 at *
  refine q_when (et_test (ev_eqI (ev_var rfl) ev_int)) (fun _ => ?_) (fun _ => ?_)
  · refine g_retL hR (evn_map (xs := List.range m.toNat) (g := fun i : Nat => W.val (.int (i : Int))) (f := fun i => D.str (tx (l.take (i + 1)))) (ei_range1 (ea1 (ev_var rfl)) (by omega) (by omega)) (by decide) (by rw [List.length_range]; omega) ⟨trivial, fun _ => trivial⟩ (fun i hi => (ev_slX (ev_var rfl) eo_none (eo_some (ev_addI (ev_var rfl) ev_int)) (by omega)).to ?_)) ⟨(List.range m.toNat).map fun i => tx (l.take (i + 1)), _, ?_, rfl, hp3.up (by omega), by rw [List.length_map, List.length_range], fun s hs => ?_, key_nd (key := fun s => s.cps.toList.length) (f := fun j => j + 1) (fun j s e => ?_) (fun i j h1 _ => by show i + 1 ≠ j + 1; omega)⟩
    · rw [cut_to' (by omega)]
      rfl
    · unfold stD
      rw [List.map_map]
      rfl
    · obtain ⟨i, hi, rfl⟩ := List.mem_map.mp hs
      obtain ⟨d, h1, h2⟩ := hl.hd
      refine nm_of ⟨d, by rw [head_take (by omega)]; exact h1, h2⟩ (fun x hx => hl.sg x (List.mem_of_mem_take hx)) ?_
      rw [List.length_take]
      omega
    · rw [List.getElem?_map] at e
      obtain ⟨i, hi, rfl⟩ := Option.map_eq_some_iff.mp e
      obtain ⟨h1, h2⟩ := List.getElem?_eq_some_iff.mp hi
      rw [List.getElem_range] at h2
      rw [List.length_range] at h1
      subst h2
      show (tx _).cps.toList.length = _
      rw [tx_cps, List.length_take]
      omega
  refine q_when (et_test (ev_eqI (ev_var rfl) ev_int)) (fun _ => ?_) (fun _ => ?_)
  · refine g_retR hR (evr_lc (ei_range1 (ea1 (ev_var rfl)) (by omega) (by omega)) (by decide) (by rw [List.length_map, List.length_range]; omega) (fun i acc k => ∃ ss p', acc = stD ss ∧ k = [(a, .lst (Pl.ds p'))] ∧ p'.Ok (n + 10 + i) ∧ ss.length = i ∧ (∀ s ∈ ss, isNm s = true) ∧ ∀ (j : Nat) (s : Str), ss[j]? = some s → s.cps.toList[0]? = letL[((q3.1 + 3 * (j : Int)) % 26).toNat]?) ⟨[], _, rfl, rfl, hp3.up (by omega), rfl, (fun s h => by cases h), fun j s h => by simp at h⟩ (fun i acc k _ => ⟨trivial, fun _ => trivial⟩) (fun i w acc k hw ⟨ss, p', e1, e2, hp', hl2, hs, hk⟩ => ?_)) (fun nd k ⟨acc, e0, ss, p', e1, e2, hp', hl2, hs, hk⟩ => ?_)
    · subst e1 e2
      have hi : i < m.toNat := by
        have := (List.getElem?_eq_some_iff.mp hw).1
        rwa [List.length_map, List.length_range] at this
      have hw2 : w = .val (.int (i : Int)) := by
        rw [List.getElem?_map, List.getElem?_range hi] at hw
        cases hw
        rfl
      subst hw2
      have hz : 0 ≤ (q3.1 + 3 * (i : Int)) % 26 := Int.emod_nonneg _ (by decide)
      have hz2 : (q3.1 + 3 * (i : Int)) % 26 < 26 := Int.emod_lt_of_pos _ (by decide)
      obtain ⟨c, hc, hm2⟩ := sgn_at (l := letL) hz (by rw [let_len]; exact hz2)
      have t6 := tk_lt p' (m := 8) (by decide)
      refine .inr ⟨_, _, .str (tx ([c] ++ l.take (tk p' 8).1.toNat)), et_yes, (ev_addT (ev_ixT (ev_var rfl) (ev_modI (ev_addI (ev_var rfl) (ev_mulL ev_int (ev_var rfl))) ev_int (by decide)) (by decide) hc) ((ev_slX (ev_var rfl) eo_none (eo_some (ev_take (kr := []) (ev_var rfl) ev_int (hp'.up (by omega)) (by decide) (by decide))) (by omega)).to (congrArg (fun z => W.val (.str (tx z))) (cut_to' t6.1))) (by rw [List.length_take]; simp; omega)), ss ++ [tx ([c] ++ l.take (tk p' 8).1.toNat)], _, stD_app ss [_], rfl, (tk_ok hp' (by decide)).up (by push_cast; omega), by rw [List.length_append, hl2]; rfl, fun s h => ?_, key_snoc hk (by rw [hl2, at_get hz hc]; rfl)⟩
      rcases List.mem_append.mp h with h | h
      · exact hs s h
      · rw [List.mem_singleton.mp h]
        refine nm_of ⟨c, rfl, hm2⟩ (fun x hx => ?_) ?_
        · rcases List.mem_append.mp hx with hx | hx
          · rw [List.mem_singleton.mp hx]; exact List.mem_append_left _ hm2
          · exact hl.sg x (List.mem_of_mem_take hx)
        · rw [List.length_append, List.length_take]
          simp
          omega
    · subst e1 e2
      rw [List.length_map, List.length_range] at hl2 hp'
      refine ⟨_, e0, ss, p', rfl, rfl, hp'.up (by omega), hl2, hs, key_nd hk fun i j h1 h2 => nd_inj let_nd ?_ ?_⟩
      · rw [let_len]; omega
      · omega
  have t6 := tk_lt q3.2 (m := 8) (by decide)
  have hp4 := tk_ok hp3 (m := 8) (by decide)
  refine q_asg ((ev_slX (ev_var rfl) eo_none (eo_some (ev_take (kr := []) (ev_var rfl) ev_int (hp3.up (by omega)) (by decide) (by decide))) (by omega)).to (congrArg (fun z => W.val (.str (tx z))) (cut_to' t6.1))) ?_
  generalize hst : l.take (tk q3.2 8).1.toNat = st
  have hsl : st.length ≤ 7 := by
    rw [← hst, List.length_take]
    omega
  have t7 := tk_lt (tk q3.2 8).2 (m := (st.length : Int) + 1) (by omega)
  have hp5 := tk_ok hp4 (m := (st.length : Int) + 1) (by omega)
  refine q_asg (ev_take (kr := []) (ev_var rfl) (ev_addI (ev_lenX (ev_var rfl) (by omega)) ev_int) (hp4.up (by omega)) (by omega) (by omega)) ?_
  generalize tk (tk q3.2 8).2 ((st.length : Int) + 1) = q5 at *
  generalize htl : (if (q5.1 == 0) = true then letL else letL ++ digL) = tl
  have htl0 : 0 < tl.length ∧ tl.length ≤ 36 := by
    rw [← htl]
    split <;> decide
  refine q_asg (w := .val (.str (tx tl))) (ev_if (et_test (ev_eqI (ev_var rfl) ev_int)) (fun hb => (ev_var rfl).to (by rw [← htl, if_pos hb])) (fun hb => (ev_var rfl).to (by rw [← htl, if_neg (by rw [hb]; exact Bool.false_ne_true)]))) ?_
  refine q_asgN (evn_lst (ds := []) ea_nil (by decide)) (fun b => ?_)
  refine q_forn (ei_range1 (ea1 (ev_var rfl)) (by omega) (by omega)) (fun i ro ka => ∃ ss v v2, ro = [some (.val (.adr a)), some (.val (.int m)), some (.val (.str (tx letL))), some (.val (.str (tx (letL ++ digL)))), some (.val (.str (tx l))), v, some (.val (.int (tk p1 4).1)), some (.val (.int q3.1)), some (.val (.str (tx st))), some (.val (.int q5.1)), some (.val (.str (tx tl))), some (.val (.adr b)), v2] ∧ ka = [(a, .lst (Pl.ds q5.2)), (b, .lst (stD ss))] ∧ ss.length = i ∧ (∀ s ∈ ss, isNm s = true) ∧ ∀ (j : Nat) (s : Str), ss[j]? = some s → s.cps.toList[q5.1.toNat]? = tl[((q3.1 + 7 * (j : Int)) % (tl.length : Int)).toNat]?)
    ⟨[], _, none, rfl, rfl, rfl, (fun s h => by cases h), fun j s h => by simp at h⟩ (fun i ro ka _ => trivial) (fun i w ro2 ka2 ta' hw ⟨ss, v, v2, e1, e2, hl2, hs, hk⟩ => ?_) (fun ro2 ka2 ta' ⟨ss, v, v2, e1, e2, hl2, hs, hk⟩ _ => ?_)
  · subst e1 e2
    have hi : i < m.toNat := by
      have := (List.getElem?_eq_some_iff.mp hw).1
      rwa [List.length_map, List.length_range] at this
    have hw2 : w = .val (.int (i : Int)) := by
      rw [List.getElem?_map, List.getElem?_range hi] at hw
      cases hw
      rfl
    subst hw2
    have hz : 0 ≤ (q3.1 + 7 * (i : Int)) % (tl.length : Int) := Int.emod_nonneg _ (by omega)
    have hz2 : (q3.1 + 7 * (i : Int)) % (tl.length : Int) < tl.length := Int.emod_lt_of_pos _ (by omega)
    obtain ⟨c, hc, hm2⟩ := sgn_at (l := tl) hz hz2
    have hpl : q5.1 ≤ st.length := by omega
    refine q_asg (ev_ixT (ev_var rfl) (ev_modI (ev_addI (ev_var rfl) (ev_mulL ev_int (ev_var rfl))) (ev_lenX (ev_var rfl) (by omega)) (by omega)) (by omega) hc) ?_
    refine g_app (j0 := 1) (j := 1) (d := .str (tx (st.take q5.1.toNat ++ [c] ++ st.drop q5.1.toNat))) (ev_var rfl) rfl ((ev_addT (ev_addT (ev_slX (ev_var rfl) eo_none (eo_some (ev_var rfl)) (by omega)) (ev_var rfl) ?_) (ev_slX (ev_var rfl) (eo_some (ev_var rfl)) eo_none (by omega)) ?_).to ?_) rfl (by rw [stD_len]; omega) (g_jp ⟨ss ++ [tx (st.take q5.1.toNat ++ [c] ++ st.drop q5.1.toNat)], _, _, rfl, ?_, by rw [List.length_append, hl2]; rfl, fun s h => ?_, key_snoc hk ?_⟩)
    · have := cut_len st none (some q5.1)
      simp
      omega
    · have h1 := cut_len st none (some q5.1)
      have h2 := cut_len st (some q5.1) none
      rw [List.length_append]
      simp
      omega
    · rw [cut_to' t7.1, cut_from t7.1 hpl]
    · exact congrArg (fun z => [(a, Nd.lst (Pl.ds q5.2)), (b, Nd.lst z)]) (stD_app ss [_])
    · rcases List.mem_append.mp h with h | h
      · exact hs s h
      · rw [List.mem_singleton.mp h]
        refine nm_mid hl _ (by omega) hst.symm (by omega) (fun h0 => ?_) ?_
        · have : (q5.1 == 0) = true := beq_iff_eq.mpr (by omega)
          rw [if_pos this] at htl
          rw [htl]
          exact hm2
        · rw [← htl] at hm2
          split at hm2
          · exact List.mem_append_left _ hm2
          · exact hm2
    · rw [hl2, at_get hz hc, tx_cps, List.append_assoc, List.getElem?_append_right (by rw [List.length_take]; omega), List.length_take, Nat.min_eq_left (by omega), Nat.sub_self]
      rfl
  · subst e1 e2
    rw [List.length_map, List.length_range] at hl2
    have hnd : ss.Nodup := key_nd hk fun i j h1 h2 => by
      have hl36 : tl = letL ∨ tl = letL ++ digL := by
        rw [← htl]
        split
        · exact .inl rfl
        · exact .inr rfl
      rcases hl36 with q | q
      · subst q
        rw [let_len]
        exact nd_inj let_nd (by rw [let_len]; omega) (by omega)
      · rw [q, sig_len]
        exact nd_inj sig_nd (by rw [sig_len]; omega) (by omega)
    exact Gp.frz (i := 11) (j := 1) rfl rfl (g_ret hR (ev_var rfl) ⟨ss, _, rfl, rfl, hp5.up (by omega), hl2, hs, hnd⟩)
end
def ct_law_tree (d : Nat) (K : PySem.W.Frag) : Ct := Ct3 fun s b c ka out => ∃ a p n ls dd, s = .val (.adr a) ∧ b = .val (.lst (stD ls)) ∧ c = .val (.int ((dd : Nat) : Int)) ∧ ka = [(a, .lst (Pl.ds p))] ∧ p.Ok n ∧ 0 ≤ n ∧ n + ((8 * 2 ^ dd : Nat) : Int) ≤ 900000 ∧ dd < d ∧ ls ≠ [] ∧ ls.length ≤ 100 ∧ (∀ x ∈ ls, isNm x = true) ∧
  out = fun o k => ∃ t p', o = .ret (Tr.d true t) ∧ k = [(a, .lst (Pl.ds p'))] ∧ p'.Ok (n + ((8 * 2 ^ dd : Nat) : Int) - 1) ∧ t.dep ≤ dd ∧ niceT t ∧ ∀ x ∈ t.nms, x ∈ ls
theorem ct_law_tree_zero (K : PySem.W.Frag) : ∀ ws ka out, ¬ ct_law_tree 0 K ws ka out := fun ws ka out ⟨_, _, _, _, a, p, n, ls, dd, _, _, _, _, _, _, _, hd, _⟩ => absurd hd (Nat.not_lt_zero _)
section
variable {P : Program} {w : World} {K : PySem.W.Frag} {mg : Str → Option Value} {base : Heap}
theorem ok_law_tree (T : Tx K mg) (F_law_take : Fn P w K mg base 4 (He.ga K "_law_take") ["_law_pool_here", "_law_many"] (ct_law_take K)) : ∀ d : Nat, Fn P w K mg base (2 * d + 6) (He.ga K "_law_tree") ["_law_pool_here", "_law_lanes", "_law_depth"] (ct_law_tree d K) := by
  obtain ⟨fd, F⟩ := T.d_law_tree
  intro d
  induction d with
  | zero => exact fn_vac F sc_law_tree (fun _ _ _ _ _ _ us hl => match us, hl with | [_, _, _], _ => rfl) (ct_law_tree_zero K)
  | succ d F_law_tree => ?_
  refine fn_ok F sc_law_tree (fun _ _ _ _ _ _ us hl => match us, hl with | [_, _, _], _ => rfl) ct3_len (fun cdv A outer s H E hr => ⟨_, (pss_cons (ps_set (i := 3) sc_law_tree.nd rfl (by first | exact Or.inl rfl | exact Or.inr rfl) (pe_call (F_law_take.up (by omega)).ok hr rfl T.g_law_take.1 T.g_law_take.2 (F_law_take.up (by omega)).bn .nil (pass_own rfl rfl rfl rfl) (pa_cons (pv 0) (pa_cons pe_int pa_nil))))
      (pss_cons (ps_if (PW.pt (pw_or (pt_cmpR (op_eqP (by have := (hr).units; exact this)) (pv 2) pe_int (nomark _)) (pw_or1 (pt_cmpR op_lt (pv 3) pe_int (nomark _)))))
      (pss_cons (ps_set (i := 4) sc_law_tree.nd rfl (by first | exact Or.inl rfl | exact Or.inr rfl) (pe_op op_addU pe_int (pe_op op_mulU (pe_call (F_law_take.up (by omega)).ok hr rfl T.g_law_take.1 T.g_law_take.2 (F_law_take.up (by omega)).bn .nil (pass_own rfl rfl rfl rfl) (pa_cons (pv 0) (pa_cons pe_int pa_nil))) (pe_call (F_law_take.up (by omega)).ok hr rfl T.g_law_take.1 T.g_law_take.2 (F_law_take.up (by omega)).bn .nil (pass_own rfl rfl rfl rfl) (pa_cons (pv 0) (pa_cons pe_int pa_nil))))))
      (pss_cons (ps_setLc (i := 6) (te := (tOp (rIx K) (tVar 1) (tCall (spC K (ct_law_take K)) [] (fun _ _ _ => False) (tCons (tVar 0) (tCons (tCB (rLenU K) (tCons (tVar 1) tNil)) tNil))))) (tt := tYes) (own := [("_law_k", 5)]) rfl sc_law_tree.nd rfl rfl rfl (pi_range1 rfl T.n_range (pa_cons (pv 4) pa_nil)) (blk_ok ["_law_pool_here", "_law_lanes", "_law_depth", "_law_kind", "_law_many", "_law_k", "_law_some", "_law_one", "_law_two"] (defScope s_law_tree) rfl rfl (by decide +kernel)) (fun _ _ _ _ _ => (pg_name (i := 5) sc_law_tree.nd rfl (by first | exact Or.inl rfl | exact Or.inr rfl))) (fun _ _ _ _ _ => pts_nil) (fun _ _ _ _ _ => (pe_ix ix_seq (pv 1) (pe_call (F_law_take.up (by omega)).ok hr rfl T.g_law_take.1 T.g_law_take.2 (F_law_take.up (by omega)).bn .nil passes_no (pa_cons (pv 0) (pa_cons (pe_callB call_lenU rfl T.n_len (by decide +kernel) (pa_cons (pv 1) pa_nil)) pa_nil))) fun _ _ => rfl)))
      (pss_cons (ps_if (pt_cmpR op_gt (pe_call (F_law_take.up (by omega)).ok hr rfl T.g_law_take.1 T.g_law_take.2 (F_law_take.up (by omega)).bn .nil (pass_own rfl rfl rfl rfl) (pa_cons (pv 0) (pa_cons pe_int pa_nil))) pe_int (nomark _))
      (pss_one (ps_ret (pe_tup (pa_cons pe_str (pa_cons (pv 6) pa_nil)))))
      pss_nil)
      (pss_one (ps_ret (pe_tup (pa_cons pe_str (pa_cons (pe_slice sl_U (pv 6) (po_some (pe_call (F_law_take.up (by omega)).ok hr rfl T.g_law_take.1 T.g_law_take.2 (F_law_take.up (by omega)).bn .nil (pass_own rfl rfl rfl rfl) (pa_cons (pv 0) (pa_cons pe_int pa_nil)))) po_none) pa_nil))))))))
      pss_nil)
      (pss_cons (ps_set (i := 7) sc_law_tree.nd rfl (by first | exact Or.inl rfl | exact Or.inr rfl) (pe_call (F_law_tree.up (by omega)).ok hr rfl T.g_law_tree.1 T.g_law_tree.2 (F_law_tree.up (by omega)).bn .nil (pass_own rfl rfl rfl rfl) (pa_cons (pv 0) (pa_cons (pv 1) (pa_cons (pe_op op_sub (pv 2) pe_int) pa_nil)))))
      (pss_cons (ps_if (pt_cmpR (op_eqP (by have := (hr).units; exact this)) (pv 3) pe_int (nomark _))
      (pss_one (ps_ret (pe_tup (pa_cons pe_str (pa_cons (pv 7) pa_nil)))))
      pss_nil)
      (pss_cons (ps_if (pt_cmpR (op_eqP (by have := (hr).units; exact this)) (pv 3) pe_int (nomark _))
      (pss_one (ps_ret (pe_tup (pa_cons pe_str (pa_cons (pv 7) pa_nil)))))
      pss_nil)
      (pss_cons (ps_set (i := 8) sc_law_tree.nd rfl (by first | exact Or.inl rfl | exact Or.inr rfl) (pe_call (F_law_tree.up (by omega)).ok hr rfl T.g_law_tree.1 T.g_law_tree.2 (F_law_tree.up (by omega)).bn .nil (pass_own rfl rfl rfl rfl) (pa_cons (pv 0) (pa_cons (pv 1) (pa_cons (pe_op op_sub (pv 2) pe_int) pa_nil)))))
      (pss_cons (ps_if (pt_cmpR (op_eqP (by have := (hr).units; exact this)) (pv 3) pe_int (nomark _))
      (pss_one (ps_ret (pe_tup (pa_cons pe_str (pa_cons (pv 7) (pa_cons (pv 8) pa_nil))))))
      pss_nil)
      (pss_one (ps_ret (pe_tup (pa_cons pe_str (pa_cons (pv 7) (pa_cons (pv 8) pa_nil))))))))))))), fun ws ka out B F0 Q hC hR hX => ?_⟩)
  obtain ⟨s, b, c, rfl, a, p, n, ls, dd, rfl, rfl, rfl, rfl, hp, hn0, hn, hd, hne, hl, hnm, rfl⟩ := hC
  have pw : 1 ≤ 2 ^ dd := Nat.one_le_two_pow
  have pe : ∀ e, dd = e + 1 → 8 * 2 ^ dd = 8 * 2 ^ e + 8 * 2 ^ e := fun e h => by rw [h, Nat.pow_succ]; omega
  generalize hB : 8 * 2 ^ dd = B at *
  have hB8 : 8 ≤ B := by omega
  have t1 := tk_lt p (m := 8) (by decide)
  have o1 := tk_ok hp (m := 8) (by decide)
  refine q_asg (ev_take (kr := []) (ev_var rfl) ev_int (hp.up (by omega)) (by decide) (by decide)) ?_
  generalize (tk p 8).2 = p1 at *
  generalize (tk p 8).1 = kind at *
  refine q_when (et_or (et_test (ev_eqI (ev_var rfl) ev_int)) (fun _ => et_test (ev_lt (ev_var rfl) ev_int))) (fun _ => ?_) (fun hb => ?_)
  · have t2 := tk_lt p1 (m := 2) (by decide)
    have o2 := tk_ok o1 (m := 2) (by decide)
    have t3 := tk_lt (tk p1 2).2 (m := 2) (by decide)
    have o3 := tk_ok o2 (m := 2) (by decide)
    obtain ⟨m, hm, hm2⟩ : ∃ m : Nat, 1 + (tk p1 2).1 * (tk (tk p1 2).2 2).1 = ((m + 1 : Nat) : Int) ∧ m + 1 ≤ 2 := by
      have h1 : (tk p1 2).1 = 0 ∨ (tk p1 2).1 = 1 := by omega
      have h2 : (tk (tk p1 2).2 2).1 = 0 ∨ (tk (tk p1 2).2 2).1 = 1 := by omega
      rcases h1 with h1 | h1 <;> rcases h2 with h2 | h2 <;> rw [h1, h2]
      · exact ⟨0, rfl, by omega⟩
      · exact ⟨0, rfl, by omega⟩
      · exact ⟨0, rfl, by omega⟩
      · exact ⟨1, rfl, by omega⟩
    refine q_asg ((ev_addI ev_int (ev_mulI (ev_take (kr := []) (ev_var rfl) ev_int (o1.up (by omega)) (by decide) (by decide)) (ev_take (kr := []) (ev_var rfl) ev_int (o2.up (by omega)) (by decide) (by decide)) (by
      have h1 : (tk p1 2).1 = 0 ∨ (tk p1 2).1 = 1 := by omega
      rcases h1 with h1 | h1 <;> rw [h1] <;> exact .of_left (by decide)))).to (by rw [hm])) ?_
    generalize (tk (tk p1 2).2 2).2 = p3 at *
    refine q_asgNR (evr_lc (ei_range1 (ea1 (ev_var rfl)) (by omega) (by omega)) (by decide) (by simp; omega) (fun i acc k => ∃ gs p', acc = stD gs ∧ gs.length = i ∧ (∀ g ∈ gs, g ∈ ls) ∧ k = [(a, .lst (Pl.ds p'))] ∧ p'.Ok (n + 3 + i)) ⟨[], p3, rfl, rfl, fun _ h => (by cases h), rfl, o3.up (by omega)⟩ (fun i acc k _ => ⟨trivial, fun _ => trivial⟩) (fun i w acc k hw ⟨gs, p', e1, e2, e3, e4, hp'⟩ => ?hs)) (fun nd k1 c ⟨acc, e0, gs, p', e1, e2, e3, e4, hp'⟩ => ?go)
    case hs =>
      subst e1 e4
      have hi : i < m + 1 := by
        have := (List.getElem?_eq_some_iff.mp hw).1
        simpa using this
      exact .inr ⟨_, _, .str (drawS p' ls), et_yes, ev_draw (kr := []) (ev_var rfl) (ev_var rfl) (ev_var rfl) (hp'.up (by omega)) hne (by omega), gs ++ [drawS p' ls], _, stD_app gs [drawS p' ls], by rw [List.length_append, e2]; rfl, fun g hg => by
        rcases List.mem_append.mp hg with hg | hg
        · exact e3 g hg
        · rw [List.mem_singleton.mp hg]; exact drawS_mem hne p', rfl, (drawP_ok hp' hne).up (by push_cast; omega)⟩
    case go =>
      subst e0 e1 e4
      have gl : gs.length = m + 1 := by rw [e2]; simp
      rw [gl] at e2
      have hp4 : p'.Ok (n + 5) := hp'.up (by rw [List.length_map, List.length_range]; omega)
      have t4 := tk_lt p' (m := 3) (by decide)
      have o4 := tk_ok hp4 (m := 3) (by decide)
      refine Gp.frz (i := 6) (j := 1) rfl rfl ?_
      refine q_when (et_test (ev_gt (ev_take (kr := []) (ev_var rfl) ev_int (hp4.up (by omega)) (by decide) (by decide)) ev_int)) (fun _ => ?_) (fun _ => ?_)
      · exact g_ret hR (ev_tup (ds := [.str "any", .lst (stD gs)]) (ea2 ev_str (ev_var rfl)) (Nat.le_of_ble_eq_true rfl)) ⟨.at true gs, _, rfl, rfl, o4.up (by omega), Nat.zero_le _, ⟨by omega, fun _ z => by rw [z] at gl; simp at gl, fun g hg => hnm g (e3 g hg)⟩, e3⟩
      · have t5 := tk_lt (tk p' 3).2 (m := 2) (by decide)
        have o5 := tk_ok o4 (m := 2) (by decide)
        obtain ⟨j, hj⟩ : ∃ j : Nat, (tk (tk p' 3).2 2).1 = (j : Int) := ⟨(tk (tk p' 3).2 2).1.toNat, by omega⟩
        have cut : cutD (stD gs) (some (tk (tk p' 3).2 2).1) none = stD (gs.drop j) := by
          rw [hj, cut_from (by omega) (by rw [stD_len]; omega)]
          unfold stD
          rw [Int.toNat_natCast, List.map_drop]
        refine g_ret hR (ev_tup (ds := [.str "none", .lst (stD (gs.drop j))]) (ea2 ev_str ((evn_sl (ev_var rfl) (eo_some (ev_take (kr := []) (ev_var rfl) ev_int (o4.up (by omega)) (by decide) (by decide))) eo_none .vl).lst.to (by rw [cut]))) (Nat.le_of_ble_eq_true rfl)) ⟨.at false (gs.drop j), _, rfl, rfl, o5.up (by omega), Nat.zero_le _, ⟨by rw [List.length_drop]; omega, fun z => absurd z (by decide), fun g hg => hnm g (e3 g (List.mem_of_mem_drop hg))⟩, fun x hx => e3 x (List.mem_of_mem_drop hx)⟩
  · obtain ⟨e, he⟩ : ∃ e, dd = e + 1 := by
      cases dd with
      | zero => simp at hb
      | succ e => exact ⟨e, rfl⟩
    have hBe := pe e he
    refine q_call (kr := []) (ea3 (ev_var rfl) (ev_var rfl) ((ev_subI (ev_var rfl) ev_int).to (w' := .val (.int ((e : Nat) : Int))) (by rw [he]; exact congrArg (fun z => W.val (.int z)) (by omega)))) ⟨_, _, _, rfl, a, p1, n + 1, ls, e, rfl, rfl, rfl, rfl, o1, by omega, by omega, by omega, hne, hl, hnm, rfl⟩ (fun o k ⟨t, p', h, _⟩ => ⟨_, h⟩) (fun d1 k1 ⟨t, p2, h1, h2, o2, td, tn, tm⟩ => ?_)
    cases h1
    subst h2
    refine q_when (et_test (ev_eqI (ev_var rfl) ev_int)) (fun _ => ?_) (fun _ => ?_)
    · exact g_ret hR (ev_tup (ds := [.str "repeat", t.d true]) (ea2 ev_str (ev_var rfl)) (Nat.le_of_ble_eq_true rfl)) ⟨.rep t, p2, rfl, rfl, o2.up (by omega), by rw [he]; exact Nat.succ_le_succ td, tn, tm⟩
    refine q_when (et_test (ev_eqI (ev_var rfl) ev_int)) (fun _ => ?_) (fun _ => ?_)
    · exact g_ret hR (ev_tup (ds := [.str "option", t.d true]) (ea2 ev_str (ev_var rfl)) (Nat.le_of_ble_eq_true rfl)) ⟨.opt t, p2, rfl, rfl, o2.up (by omega), by rw [he]; exact Nat.succ_le_succ td, tn, tm⟩
    refine q_call (kr := []) (ea3 (ev_var rfl) (ev_var rfl) ((ev_subI (ev_var rfl) ev_int).to (w' := .val (.int ((e : Nat) : Int))) (by rw [he]; exact congrArg (fun z => W.val (.int z)) (by omega)))) ⟨_, _, _, rfl, a, p2, _, ls, e, rfl, rfl, rfl, rfl, o2, by omega, by omega, by omega, hne, hl, hnm, rfl⟩ (fun o k ⟨t, p', h, _⟩ => ⟨_, h⟩) (fun d1 k1 ⟨u, p3, h1, h2, o3, ud, un, um⟩ => ?_)
    cases h1
    subst h2
    have both : ∀ x ∈ t.nms ++ u.nms, x ∈ ls := fun x hx => (List.mem_append.mp hx).elim (tm x) (um x)
    have dep2 : max t.dep u.dep + 1 ≤ dd := by omega
    refine q_when (et_test (ev_eqI (ev_var rfl) ev_int)) (fun _ => ?_) (fun _ => ?_)
    · exact g_ret hR (ev_tup (ds := [.str "either", t.d true, u.d true]) (ea3 ev_str (ev_var rfl) (ev_var rfl)) (Nat.le_of_ble_eq_true rfl)) ⟨.either t u, p3, rfl, rfl, o3.up (by omega), dep2, ⟨tn, un⟩, both⟩
    · exact g_ret hR (ev_tup (ds := [.str "join", t.d true, u.d true]) (ea3 ev_str (ev_var rfl) (ev_var rfl)) (Nat.le_of_ble_eq_true rfl)) ⟨.join t u, p3, rfl, rfl, o3.up (by omega), dep2, ⟨tn, un⟩, both⟩
end
def ct_law_atom (K : PySem.W.Frag) : Ct := Ct2 fun a b ka out => ∃ (k : Bool) (ns : List Str), a = .val (.str (kdS k)) ∧ b = .val (.lst (stD ns)) ∧ ns.length ≤ 3 ∧ (k = true → ns ≠ []) ∧ (∀ n ∈ ns, isNm n = true) ∧ ka = [] ∧ out = Rt (PaD K ((Tr.at k ns).d false)) []
section
variable {P : Program} {w : World} {K : PySem.W.Frag} {mg : Str → Option Value} {base : Heap}
theorem ok_law_atom (T : Tx K mg) (F_any_of : FnV P w K mg base 8 (He.ga K "any_of") (ct_any_of K)) (F_none_of : FnV P w K mg base 8 (He.ga K "none_of") (ct_none_of K)) : Fn P w K mg base 10 (He.ga K "_law_atom") ["_law_kind", "_law_names_here"] (ct_law_atom K) := by
  obtain ⟨fd, F⟩ := T.d_law_atom
  refine fn_ok F sc_law_atom (fun _ _ _ _ _ _ us hl => match us, hl with | [_, _], _ => rfl) ct2_len (fun cdv A outer s H E hr => ⟨_, (pss_cons (ps_if (pt_cmpR (op_eqP (by have := (hr).units; exact this)) (pe_callB call_lenU rfl T.n_len (by decide +kernel) (pa_cons (pv 1) pa_nil)) pe_int (nomark _))
      (pss_one (ps_ret (pe_callS0 (F_none_of.up (by decide)) hr rfl T.g_none_of.1 T.g_none_of.2 (pass_own rfl rfl rfl rfl))))
      pss_nil)
      (pss_cons (ps_if (pt_cmpR (op_eqP (by have := (hr).units; exact this)) (pe_callB call_lenU rfl T.n_len (by decide +kernel) (pa_cons (pv 1) pa_nil)) pe_int (nomark _))
      (pss_one (ps_ret (pe_ifExp (pt_cmpR (op_eqP (by have := (hr).units; exact this)) (pv 0) pe_str (nomark _)) (pe_callS (F_any_of.up (by decide)) hr rfl T.g_any_of.1 T.g_any_of.2 (pass_own rfl rfl rfl rfl) (pa_cons (pe_ix ix_seq (pv 1) pe_int fun _ _ => rfl) pa_nil)) (pe_callS (F_none_of.up (by decide)) hr rfl T.g_none_of.1 T.g_none_of.2 (pass_own rfl rfl rfl rfl) (pa_cons (pe_ix ix_seq (pv 1) pe_int fun _ _ => rfl) pa_nil)))))
      pss_nil)
      (pss_cons (ps_if (pt_cmpR (op_eqP (by have := (hr).units; exact this)) (pe_callB call_lenU rfl T.n_len (by decide +kernel) (pa_cons (pv 1) pa_nil)) pe_int (nomark _))
      (pss_one (ps_ret (pe_ifExp (pt_cmpR (op_eqP (by have := (hr).units; exact this)) (pv 0) pe_str (nomark _)) (pe_callS (F_any_of.up (by decide)) hr rfl T.g_any_of.1 T.g_any_of.2 (pass_own rfl rfl rfl rfl) (pa_cons (pe_ix ix_seq (pv 1) pe_int fun _ _ => rfl) (pa_cons (pe_ix ix_seq (pv 1) pe_int fun _ _ => rfl) pa_nil))) (pe_callS (F_none_of.up (by decide)) hr rfl T.g_none_of.1 T.g_none_of.2 (pass_own rfl rfl rfl rfl) (pa_cons (pe_ix ix_seq (pv 1) pe_int fun _ _ => rfl) (pa_cons (pe_ix ix_seq (pv 1) pe_int fun _ _ => rfl) pa_nil))))))
      pss_nil)
      (pss_one (ps_ret (pe_ifExp (pt_cmpR (op_eqP (by have := (hr).units; exact this)) (pv 0) pe_str (nomark _)) (pe_callS (F_any_of.up (by decide)) hr rfl T.g_any_of.1 T.g_any_of.2 (pass_own rfl rfl rfl rfl) (pa_cons (pe_ix ix_seq (pv 1) pe_int fun _ _ => rfl) (pa_cons (pe_ix ix_seq (pv 1) pe_int fun _ _ => rfl) (pa_cons (pe_ix ix_seq (pv 1) pe_int fun _ _ => rfl) pa_nil)))) (pe_callS (F_none_of.up (by decide)) hr rfl T.g_none_of.1 T.g_none_of.2 (pass_own rfl rfl rfl rfl) (pa_cons (pe_ix ix_seq (pv 1) pe_int fun _ _ => rfl) (pa_cons (pe_ix ix_seq (pv 1) pe_int fun _ _ => rfl) (pa_cons (pe_ix ix_seq (pv 1) pe_int fun _ _ => rfl) pa_nil)))))))))), fun ws ka out B F0 Q hC hR hX => ?_⟩)
  obtain ⟨a, b, rfl, k, ns, rfl, rfl, hl, hne, hn, rfl, rfl⟩ := hC
  match ns, hl, hne, hn with
  | [], _, hne, _ =>
    obtain rfl : k = false := by cases k with
      | false => rfl
      | true => exact absurd rfl (hne rfl)
    refine q_when ((et_test (ev_eqI (ev_len (ev_var rfl) .vl) ev_int)).to (b := true) rfl) (fun _ => ?_) (fun z => by cases z)
    exact g_ret hR (ev_callP ea_nil ⟨[], rfl, Nat.zero_le _, _, rfl, [], rfl, by simp, rfl, rfl⟩) ⟨rfl, rfl⟩
  | [x], _, _, hn =>
    refine q_when ((et_test (ev_eqI (ev_len (ev_var rfl) .vl) ev_int)).to (b := false) rfl) (fun z => by cases z) (fun _ => ?_)
    refine q_when ((et_test (ev_eqI (ev_len (ev_var rfl) .vl) ev_int)).to (b := true) rfl) (fun _ => ?_) (fun z => by cases z)
    cases k with
    | true => exact g_ret hR (ev_ifT ((et_test (ev_eqS (ev_var rfl) ev_str)).to (by decide)) (ev_callP (ea1 (ev_ixV (ev_var rfl) ev_int .vl at0)) ⟨stD [x], rfl, Nat.le_of_ble_eq_true rfl, _, rfl, [x], rfl, List.cons_ne_nil _ _, hn, rfl, rfl⟩)) ⟨rfl, rfl⟩
    | false => exact g_ret hR (ev_ifF ((et_test (ev_eqS (ev_var rfl) ev_str)).to (by decide)) (ev_callP (ea1 (ev_ixV (ev_var rfl) ev_int .vl at0)) ⟨stD [x], rfl, Nat.le_of_ble_eq_true rfl, _, rfl, [x], rfl, hn, rfl, rfl⟩)) ⟨rfl, rfl⟩
  | [x, y], _, _, hn =>
    refine q_when ((et_test (ev_eqI (ev_len (ev_var rfl) .vl) ev_int)).to (b := false) rfl) (fun z => by cases z) (fun _ => ?_)
    refine q_when ((et_test (ev_eqI (ev_len (ev_var rfl) .vl) ev_int)).to (b := false) rfl) (fun z => by cases z) (fun _ => ?_)
    refine q_when ((et_test (ev_eqI (ev_len (ev_var rfl) .vl) ev_int)).to (b := true) rfl) (fun _ => ?_) (fun z => by cases z)
    cases k with
    | true => exact g_ret hR (ev_ifT ((et_test (ev_eqS (ev_var rfl) ev_str)).to (by decide)) (ev_callP (ea2 (ev_ixV (ev_var rfl) ev_int .vl at0) (ev_ixV (ev_var rfl) ev_int .vl (atI_nat (j := 1) rfl))) ⟨stD [x, y], rfl, Nat.le_of_ble_eq_true rfl, _, rfl, [x, y], rfl, List.cons_ne_nil _ _, hn, rfl, rfl⟩)) ⟨rfl, rfl⟩
    | false => exact g_ret hR (ev_ifF ((et_test (ev_eqS (ev_var rfl) ev_str)).to (by decide)) (ev_callP (ea2 (ev_ixV (ev_var rfl) ev_int .vl at0) (ev_ixV (ev_var rfl) ev_int .vl (atI_nat (j := 1) rfl))) ⟨stD [x, y], rfl, Nat.le_of_ble_eq_true rfl, _, rfl, [x, y], rfl, hn, rfl, rfl⟩)) ⟨rfl, rfl⟩
  | [x, y, z], _, _, hn =>
    refine q_when ((et_test (ev_eqI (ev_len (ev_var rfl) .vl) ev_int)).to (b := false) rfl) (fun z => by cases z) (fun _ => ?_)
    refine q_when ((et_test (ev_eqI (ev_len (ev_var rfl) .vl) ev_int)).to (b := false) rfl) (fun z => by cases z) (fun _ => ?_)
    refine q_when ((et_test (ev_eqI (ev_len (ev_var rfl) .vl) ev_int)).to (b := false) rfl) (fun z => by cases z) (fun _ => ?_)
    cases k with
    | true => exact g_ret hR (ev_ifT ((et_test (ev_eqS (ev_var rfl) ev_str)).to (by decide)) (ev_callP (ea3 (ev_ixV (ev_var rfl) ev_int .vl at0) (ev_ixV (ev_var rfl) ev_int .vl (atI_nat (j := 1) rfl)) (ev_ixV (ev_var rfl) ev_int .vl (atI_nat (j := 2) rfl))) ⟨stD [x, y, z], rfl, Nat.le_of_ble_eq_true rfl, _, rfl, [x, y, z], rfl, List.cons_ne_nil _ _, hn, rfl, rfl⟩)) ⟨rfl, rfl⟩
    | false => exact g_ret hR (ev_ifF ((et_test (ev_eqS (ev_var rfl) ev_str)).to (by decide)) (ev_callP (ea3 (ev_ixV (ev_var rfl) ev_int .vl at0) (ev_ixV (ev_var rfl) ev_int .vl (atI_nat (j := 1) rfl)) (ev_ixV (ev_var rfl) ev_int .vl (atI_nat (j := 2) rfl))) ⟨stD [x, y, z], rfl, Nat.le_of_ble_eq_true rfl, _, rfl, [x, y, z], rfl, hn, rfl, rfl⟩)) ⟨rfl, rfl⟩
end
def ct_law_pattern (d : Nat) (K : PySem.W.Frag) : Ct := Ct1 fun a ka out => ∃ t : Tr, a = .val (t.d true) ∧ t.dep < d ∧ niceT t ∧ ka = [] ∧ out = Rt (PaD K (t.d false)) []
theorem ct_law_pattern_zero (K : PySem.W.Frag) : ∀ ws ka out, ¬ ct_law_pattern 0 K ws ka out := fun ws ka out ⟨_, _, t, _, hd, _⟩ => absurd hd (Nat.not_lt_zero _)
section
variable {P : Program} {w : World} {K : PySem.W.Frag} {mg : Str → Option Value} {base : Heap}
theorem ok_law_pattern (T : Tx K mg) (F_Pattern___add : Fn P w K mg base 6 (He.ma K (He.ga K "Pattern") "__add__") ["self", "other"] (ct_Pattern___add K)) (F_Pattern___or : Fn P w K mg base 6 (He.ma K (He.ga K "Pattern") "__or__") ["self", "other"] (ct_Pattern___or K)) (F_repeated : Fn P w K mg base 6 (He.ga K "repeated") ["pattern"] (ct_repeated K)) (F_optional : Fn P w K mg base 6 (He.ga K "optional") ["pattern"] (ct_optional K)) (F_law_atom : Fn P w K mg base 10 (He.ga K "_law_atom") ["_law_kind", "_law_names_here"] (ct_law_atom K)) : ∀ d : Nat, Fn P w K mg base (2 * d + 12) (He.ga K "_law_pattern") ["_law_tree_here"] (ct_law_pattern d K) := by
  obtain ⟨fd, F⟩ := T.d_law_pattern
  intro d
  induction d with
  | zero => exact fn_vac F sc_law_pattern (fun _ _ _ _ _ _ us hl => match us, hl with | [_], _ => rfl) (ct_law_pattern_zero K)
  | succ d F_law_pattern => ?_
  refine fn_ok F sc_law_pattern (fun _ _ _ _ _ _ us hl => match us, hl with | [_], _ => rfl) ct1_len (fun cdv A outer s H E hr => ⟨_, (pss_cons (ps_if (pt_cmpR op_inU (pe_ix ix_seq (pv 0) pe_int fun _ _ => rfl) (pe_tup (pa_cons pe_str (pa_cons pe_str pa_nil))) (by with_unfolding_all rfl))
      (pss_one (ps_ret (pe_call (F_law_atom.up (by omega)).ok hr rfl T.g_law_atom.1 T.g_law_atom.2 (F_law_atom.up (by omega)).bn .nil (pass_own rfl rfl rfl rfl) (pa_cons (pe_ix ix_seq (pv 0) pe_int fun _ _ => rfl) (pa_cons (pe_ix ix_seq (pv 0) pe_int fun _ _ => rfl) pa_nil)))))
      pss_nil)
      (pss_cons (ps_set (i := 1) sc_law_pattern.nd rfl (by first | exact Or.inl rfl | exact Or.inr rfl) (pe_call (F_law_pattern.up (by omega)).ok hr rfl T.g_law_pattern.1 T.g_law_pattern.2 (F_law_pattern.up (by omega)).bn .nil (pass_own rfl rfl rfl rfl) (pa_cons (pe_ix ix_seq (pv 0) pe_int fun _ _ => rfl) pa_nil)))
      (pss_cons (ps_if (pt_cmpR (op_eqP (by have := (hr).units; exact this)) (pe_ix ix_seq (pv 0) pe_int fun _ _ => rfl) pe_str (nomark _))
      (pss_one (ps_ret (pe_call (F_repeated.up (by omega)).ok hr rfl T.g_repeated.1 T.g_repeated.2 (F_repeated.up (by omega)).bn .nil (pass_own rfl rfl rfl rfl) (pa_cons (pv 1) pa_nil))))
      pss_nil)
      (pss_cons (ps_if (pt_cmpR (op_eqP (by have := (hr).units; exact this)) (pe_ix ix_seq (pv 0) pe_int fun _ _ => rfl) pe_str (nomark _))
      (pss_one (ps_ret (pe_call (F_optional.up (by omega)).ok hr rfl T.g_optional.1 T.g_optional.2 (F_optional.up (by omega)).bn .nil (pass_own rfl rfl rfl rfl) (pa_cons (pv 1) pa_nil))))
      pss_nil)
      (pss_cons (ps_set (i := 2) sc_law_pattern.nd rfl (by first | exact Or.inl rfl | exact Or.inr rfl) (pe_call (F_law_pattern.up (by omega)).ok hr rfl T.g_law_pattern.1 T.g_law_pattern.2 (F_law_pattern.up (by omega)).bn .nil (pass_own rfl rfl rfl rfl) (pa_cons (pe_ix ix_seq (pv 0) pe_int fun _ _ => rfl) pa_nil)))
      (pss_one (ps_ret (pe_ifExp (pt_cmpR (op_eqP (by have := (hr).units; exact this)) (pe_ix ix_seq (pv 0) pe_int fun _ _ => rfl) pe_str (nomark _)) (pe_op (op_owB T.bo_Pattern_BitOr (F_Pattern___or.up (by omega)) hr (pass_own rfl rfl rfl rfl)) (pv 1) (pv 2)) (pe_op (op_owB T.bo_Pattern_Add (F_Pattern___add.up (by omega)) hr (pass_own rfl rfl rfl rfl)) (pv 1) (pv 2)))))))))), fun ws ka out B F0 Q hC hR hX => ?_⟩)
  obtain ⟨a, rfl, t, rfl, hd, hn, rfl, rfl⟩ := hC
  cases t with
  | «at» kd ns =>
    refine q_when (b := true) ((et_test (ev_inL (ss := ["any", "none"]) (ev_ixV (ev_var rfl) ev_int .vt at0) (ev_tup (ds := stD ["any", "none"]) (ea2 ev_str ev_str) (Nat.le_of_ble_eq_true rfl)) .vt)).to (by cases kd <;> decide)) (fun _ => ?_) (fun z => by cases z)
    exact g_ret hR (ev_callP (ea2 (ev_ixV (ev_var rfl) ev_int .vt at0) (ev_ixV (ev_var rfl) ev_int .vt (atI_nat (j := 1) rfl))) ⟨_, _, rfl, kd, ns, rfl, rfl, hn.1, hn.2.1, hn.2.2, rfl, rfl⟩) ⟨rfl, rfl⟩
  | rep x =>
    have hx : x.dep + 1 < d + 1 := hd
    refine q_when (b := false) ((et_test (ev_inL (ss := ["any", "none"]) (ev_ixV (ev_var rfl) ev_int .vt at0) (ev_tup (ds := stD ["any", "none"]) (ea2 ev_str ev_str) (Nat.le_of_ble_eq_true rfl)) .vt)).to (by decide)) (fun z => by cases z) (fun _ => ?_)
    refine q_asg (ev_callP (ea1 (ev_ixV (ev_var rfl) ev_int .vt (atI_nat (j := 1) rfl))) ⟨_, rfl, x, rfl, by omega, hn, rfl, rfl⟩) ?_
    refine q_when (b := true) ((et_test (ev_eqS (ev_ixV (ev_var rfl) ev_int .vt at0) ev_str)).to (by decide)) (fun _ => ?_) (fun z => by cases z)
    exact g_ret hR (ev_callP (ea1 (ev_var rfl)) ⟨_, rfl, x, rfl, rfl, rfl⟩) ⟨rfl, rfl⟩
  | opt x =>
    have hx : x.dep + 1 < d + 1 := hd
    refine q_when (b := false) ((et_test (ev_inL (ss := ["any", "none"]) (ev_ixV (ev_var rfl) ev_int .vt at0) (ev_tup (ds := stD ["any", "none"]) (ea2 ev_str ev_str) (Nat.le_of_ble_eq_true rfl)) .vt)).to (by decide)) (fun z => by cases z) (fun _ => ?_)
    refine q_asg (ev_callP (ea1 (ev_ixV (ev_var rfl) ev_int .vt (atI_nat (j := 1) rfl))) ⟨_, rfl, x, rfl, by omega, hn, rfl, rfl⟩) ?_
    refine q_when (b := false) ((et_test (ev_eqS (ev_ixV (ev_var rfl) ev_int .vt at0) ev_str)).to (by decide)) (fun z => by cases z) (fun _ => ?_)
    refine q_when (b := true) ((et_test (ev_eqS (ev_ixV (ev_var rfl) ev_int .vt at0) ev_str)).to (by decide)) (fun _ => ?_) (fun z => by cases z)
    exact g_ret hR (ev_callP (ea1 (ev_var rfl)) ⟨_, rfl, x, rfl, rfl, rfl⟩) ⟨rfl, rfl⟩
  | either x y =>
    have hx : max x.dep y.dep + 1 < d + 1 := hd
    refine q_when (b := false) ((et_test (ev_inL (ss := ["any", "none"]) (ev_ixV (ev_var rfl) ev_int .vt at0) (ev_tup (ds := stD ["any", "none"]) (ea2 ev_str ev_str) (Nat.le_of_ble_eq_true rfl)) .vt)).to (by decide)) (fun z => by cases z) (fun _ => ?_)
    refine q_asg (ev_callP (ea1 (ev_ixV (ev_var rfl) ev_int .vt (atI_nat (j := 1) rfl))) ⟨_, rfl, x, rfl, by omega, hn.1, rfl, rfl⟩) ?_
    refine q_when (b := false) ((et_test (ev_eqS (ev_ixV (ev_var rfl) ev_int .vt at0) ev_str)).to (by decide)) (fun z => by cases z) (fun _ => ?_)
    refine q_when (b := false) ((et_test (ev_eqS (ev_ixV (ev_var rfl) ev_int .vt at0) ev_str)).to (by decide)) (fun z => by cases z) (fun _ => ?_)
    refine q_asg (ev_callP (ea1 (ev_ixV (ev_var rfl) ev_int .vt (atI_nat (j := 2) rfl))) ⟨_, rfl, y, rfl, by omega, hn.2, rfl, rfl⟩) ?_
    exact g_ret hR (ev_ifT ((et_test (ev_eqS (ev_ixV (ev_var rfl) ev_int .vt at0) ev_str)).to (by decide)) (ev_opB (ev_var rfl) (ev_var rfl) .v .v ⟨_, _, rfl, x, y, rfl, rfl, rfl, rfl⟩)) ⟨rfl, rfl⟩
  | join x y =>
    have hx : max x.dep y.dep + 1 < d + 1 := hd
    refine q_when (b := false) ((et_test (ev_inL (ss := ["any", "none"]) (ev_ixV (ev_var rfl) ev_int .vt at0) (ev_tup (ds := stD ["any", "none"]) (ea2 ev_str ev_str) (Nat.le_of_ble_eq_true rfl)) .vt)).to (by decide)) (fun z => by cases z) (fun _ => ?_)
    refine q_asg (ev_callP (ea1 (ev_ixV (ev_var rfl) ev_int .vt (atI_nat (j := 1) rfl))) ⟨_, rfl, x, rfl, by omega, hn.1, rfl, rfl⟩) ?_
    refine q_when (b := false) ((et_test (ev_eqS (ev_ixV (ev_var rfl) ev_int .vt at0) ev_str)).to (by decide)) (fun z => by cases z) (fun _ => ?_)
    refine q_when (b := false) ((et_test (ev_eqS (ev_ixV (ev_var rfl) ev_int .vt at0) ev_str)).to (by decide)) (fun z => by cases z) (fun _ => ?_)
    refine q_asg (ev_callP (ea1 (ev_ixV (ev_var rfl) ev_int .vt (atI_nat (j := 2) rfl))) ⟨_, rfl, y, rfl, by omega, hn.2, rfl, rfl⟩) ?_
    exact g_ret hR (ev_ifF ((et_test (ev_eqS (ev_ixV (ev_var rfl) ev_int .vt at0) ev_str)).to (by decide)) (ev_opB (ev_var rfl) (ev_var rfl) .v .v ⟨_, _, rfl, x, y, rfl, rfl, rfl, rfl⟩)) ⟨rfl, rfl⟩
end
def ct_law_takes (K : PySem.W.Frag) : Ct := Ct2 fun a b ka out => ∃ (k : Bool) (ns : List Str) (x : Str), a = .val ((Tr.at k ns).d true) ∧ b = .val (.str x) ∧ ka = [] ∧ out = Rt (.bl (atB (k, ns) x)) []
section
variable {P : Program} {w : World} {K : PySem.W.Frag} {mg : Str → Option Value} {base : Heap}
theorem ok_law_takes (T : Tx K mg) : Fn P w K mg base 4 (He.ga K "_law_takes") ["_law_atom_here", "_law_lane"] (ct_law_takes K) := by
  obtain ⟨fd, F⟩ := T.d_law_takes
  refine fn_ok F sc_law_takes (fun _ _ _ _ _ _ us hl => match us, hl with | [_, _], _ => rfl) ct2_len (fun cdv A outer s H E hr => ⟨_, (pss_one (ps_ret (pe_cmpR (op_eqP (by have := (hr).units; exact this)) (pe_cmpR op_inU (pv 1) (pe_ix ix_seq (pv 0) pe_int fun _ _ => rfl) (by with_unfolding_all rfl)) (pe_cmpR (op_eqP (by have := (hr).units; exact this)) (pe_ix ix_seq (pv 0) pe_int fun _ _ => rfl) pe_str (nomark _)) (nomark _)))), fun ws ka out B F0 Q hC hR hX => ?_⟩)
  obtain ⟨a, b, rfl, k, ns, x, rfl, rfl, rfl, rfl⟩ := hC
  exact g_ret hR (ev_eqB (ev_inL (ss := ns) (ev_var rfl) (ev_ixV (ev_var rfl) ev_int .vt (atI_nat (j := 1) rfl)) .vl) ((ev_eqS (ev_ixV (ev_var rfl) ev_int .vt at0) ev_str).to (w' := .val (.bl k)) (by cases k <;> rfl))) ⟨rfl, rfl⟩
end
def ct_law_distinct (K : PySem.W.Frag) : Ct := Ct1 fun a ka out => ∃ xs : List Nat, a = .val (.lst (nmD xs)) ∧ xs.length ≤ 50000 ∧ ka = [] ∧ out = Rt (.lst (nmD (dedN xs))) []
section
variable {P : Program} {w : World} {K : PySem.W.Frag} {mg : Str → Option Value} {base : Heap}
theorem ok_law_distinct (T : Tx K mg) : Fn P w K mg base 4 (He.ga K "_law_distinct") ["_law_things"] (ct_law_distinct K) := by
  obtain ⟨fd, F⟩ := T.d_law_distinct
  refine fn_ok F sc_law_distinct (fun _ _ _ _ _ _ us hl => match us, hl with | [_], _ => rfl) ct1_len (fun cdv A outer s H E hr => ⟨_, (pss_one (ps_ret (pe_lc (te := (tCB rIntU (tCons (tVar 2) tNil))) (tt := (tTest (tOp (rNiU K) (tVar 2) (tSl (rSlU K) (tVar 0) tNoPart (tPart (tVar 1)))))) (g := (gTup _ 2 (gCons (gName 1) (gCons (gName 2) gNil)))) (own := [("_law_k", 1), ("_law_thing", 2)]) rfl sc_law_distinct.nd (pi_enum rfl T.n_enumerate (pa_cons (pv 0) pa_nil)) (blk_ok ["_law_things", "_law_k", "_law_thing"] (defScope s_law_distinct) rfl rfl (by decide +kernel)) (by intro _ _ _ _ _; exact (pg_tup rfl (pgs_cons (pg_name (i := 1) sc_law_distinct.nd rfl (by first | exact Or.inl rfl | exact Or.inr rfl)) (pgs_cons (pg_name (i := 2) sc_law_distinct.nd rfl (by first | exact Or.inl rfl | exact Or.inr rfl)) pgs_nil)))) (fun _ _ _ _ _ => (pts_one (pt_cmpR op_niU (pv 2) (pe_slice sl_U (pv 0) po_none (po_some (pv 1))) (by with_unfolding_all rfl)))) (fun _ _ _ _ _ => (pe_callTy call_intU rfl T.n_int (by decide +kernel) (pa_cons (pv 2) pa_nil)))))), fun ws ka out B F0 Q hC hR hX => ?_⟩)
  obtain ⟨a, rfl, xs, rfl, hl, rfl, rfl⟩ := hC
  have nl : (nmD xs).length = xs.length := List.length_map _
  have ng : ∀ i, i < xs.length → (nmD xs).getD i .non = D.int ((xs.getD i 0 : Nat) : Int) := fun i hi => by
    unfold nmD
    rw [List.getD_eq_getElem?_getD, List.getD_eq_getElem?_getD, List.getElem?_map, List.getElem?_eq_getElem hi]
    rfl
  have hws : ((List.range (nmD xs).length).map fun i : Nat => W.val (.tup [.int (i : Int), (nmD xs).getD i .non])) = ((List.range xs.length).map fun i : Nat => ((D.int (i : Int), D.int ((xs.getD i 0 : Nat) : Int)) : D × D)).map fun p => W.val (.tup [p.1, p.2]) := by
    rw [List.map_map, nl]
    exact List.map_congr_left fun i hi => by
      rw [ng i (List.mem_range.mp hi)]
      rfl
  refine g_ret hR ((evn_filtP (f := fun x => x.2) (p := fun x => match x with
    | (.int i, .int n) => !decide (n.toNat ∈ xs.take i.toNat)
    | _ => false) (EvI.ws (ei_enum (ds := nmD xs) (ev_var rfl) .vl) hws) (by decide) (by decide) (by rw [List.length_map, List.length_range]; omega) ⟨trivial, fun _ => trivial⟩ (fun x hx => ?_) (fun x hx _ => ?_)).lst.to ?_) ⟨rfl, rfl⟩
  · obtain ⟨i, hi, rfl⟩ := List.mem_map.mp hx
    have cut : cutD (nmD xs) none (some (i : Int)) = nmD (xs.take i) := by
      rw [cut_to' (by omega)]
      unfold nmD
      rw [← List.map_take]
      rfl
    exact et_test (ev_niN (ev_var rfl) ((evn_sl (ev_var rfl) eo_none (eo_some (ev_var rfl)) .vl).lst.to (by rw [cut]; rfl)) .vl)
  · obtain ⟨i, hi, rfl⟩ := List.mem_map.mp hx
    exact ev_int1 (ev_var rfl)
  · unfold dedN nmD
    rw [List.filter_map, List.map_map, List.map_map]
    rfl
end
def ct_law_ends_of (d : Nat) (K : PySem.W.Frag) : Ct := Ct3 fun a b c ka out => ∃ (t : Tr) (ws : List Str) (s : Nat), a = .val (t.d true) ∧ b = .val (.lst (stD ws)) ∧ c = .val (.int (s : Int)) ∧ t.dep < d ∧ EbOk ws.length t ∧ ws.length ≤ 1000 ∧ s ≤ ws.length ∧ ka = [] ∧ out = Rt (.lst (nmD (endsL ws t s))) []
theorem ct_law_ends_of_zero (K : PySem.W.Frag) : ∀ ws ka out, ¬ ct_law_ends_of 0 K ws ka out := fun ws ka out ⟨_, _, _, _, _, _, _, _, _, _, hd, _⟩ => absurd hd (Nat.not_lt_zero _)
theorem nm_one (n : Nat) : [D.int ((n : Int) + 1)] = nmD [n + 1] := by
  show _ = [D.int ((n + 1 : Nat) : Int)]
  rw [Int.natCast_add]
  rfl
theorem nm_app (xs ys : List Nat) : nmD xs ++ nmD ys = nmD (xs ++ ys) := (List.map_append ..).symm
theorem nm_len (xs : List Nat) : (nmD xs).length = xs.length := List.length_map _
theorem nm_get {xs : List Nat} {i p : Nat} (h : xs[i]? = some p) : (nmD xs)[i]? = some (.int (p : Int)) := by
  show (xs.map fun n : Nat => D.int (n : Int))[i]? = _
  rw [List.getElem?_map, h]
  rfl
section
variable {P : Program} {w : World} {K : PySem.W.Frag} {mg : Str → Option Value} {base : Heap}
theorem ok_law_ends_of (T : Tx K mg) (F_law_takes : Fn P w K mg base 4 (He.ga K "_law_takes") ["_law_atom_here", "_law_lane"] (ct_law_takes K)) (F_law_distinct : Fn P w K mg base 4 (He.ga K "_law_distinct") ["_law_things"] (ct_law_distinct K)) : ∀ d : Nat, Fn P w K mg base (2 * d + 6) (He.ga K "_law_ends_of") ["_law_tree_here", "_law_lanes", "_law_start"] (ct_law_ends_of d K) := by
  obtain ⟨fd, F⟩ := T.d_law_ends_of
  intro d
  induction d with
  | zero => exact fn_vac F sc_law_ends_of (fun _ _ _ _ _ _ us hl => match us, hl with | [_, _, _], _ => rfl) (ct_law_ends_of_zero K)
  | succ d F_law_ends_of => ?_
  refine fn_ok F sc_law_ends_of (fun _ _ _ _ _ _ us hl => match us, hl with | [_, _, _], _ => rfl) ct3_len (fun cdv A outer s H E hr => ⟨_, (pss_cons (ps_if (pt_cmpR op_inU (pe_ix ix_seq (pv 0) pe_int fun _ _ => rfl) (pe_tup (pa_cons pe_str (pa_cons pe_str pa_nil))) (by with_unfolding_all rfl))
      (pss_cons (ps_if (PW.pt (pw_and (pt_cmpR op_lt (pv 2) (pe_callB call_lenU rfl T.n_len (by decide +kernel) (pa_cons (pv 1) pa_nil)) (nomark _)) (pw_and1 (pt_val (pe_call (F_law_takes.up (by omega)).ok hr rfl T.g_law_takes.1 T.g_law_takes.2 (F_law_takes.up (by omega)).bn .nil (pass_own rfl rfl rfl rfl) (pa_cons (pv 0) (pa_cons (pe_ix ix_seq (pv 1) (pv 2) fun _ _ => rfl) pa_nil)))))))
      (pss_one (ps_ret (pe_lst (pa_cons (pe_op op_addU (pv 2) pe_int) pa_nil))))
      pss_nil)
      (pss_one (ps_ret (pe_lst pa_nil))))
      pss_nil)
      (pss_cons (ps_if (pt_cmpR (op_eqP (by have := (hr).units; exact this)) (pe_ix ix_seq (pv 0) pe_int fun _ _ => rfl) pe_str (nomark _))
      (pss_one (ps_ret (pe_op op_addU (pe_call (F_law_ends_of.up (by omega)).ok hr rfl T.g_law_ends_of.1 T.g_law_ends_of.2 (F_law_ends_of.up (by omega)).bn .nil (pass_own rfl rfl rfl rfl) (pa_cons (pe_ix ix_seq (pv 0) pe_int fun _ _ => rfl) (pa_cons (pv 1) (pa_cons (pv 2) pa_nil)))) (pe_call (F_law_ends_of.up (by omega)).ok hr rfl T.g_law_ends_of.1 T.g_law_ends_of.2 (F_law_ends_of.up (by omega)).bn .nil (pass_own rfl rfl rfl rfl) (pa_cons (pe_ix ix_seq (pv 0) pe_int fun _ _ => rfl) (pa_cons (pv 1) (pa_cons (pv 2) pa_nil)))))))
      pss_nil)
      (pss_cons (ps_if (pt_cmpR (op_eqP (by have := (hr).units; exact this)) (pe_ix ix_seq (pv 0) pe_int fun _ _ => rfl) pe_str (nomark _))
      (pss_one (ps_ret (pe_op op_addU (pe_lst (pa_cons (pv 2) pa_nil)) (pe_call (F_law_ends_of.up (by omega)).ok hr rfl T.g_law_ends_of.1 T.g_law_ends_of.2 (F_law_ends_of.up (by omega)).bn .nil (pass_own rfl rfl rfl rfl) (pa_cons (pe_ix ix_seq (pv 0) pe_int fun _ _ => rfl) (pa_cons (pv 1) (pa_cons (pv 2) pa_nil)))))))
      pss_nil)
      (pss_cons (ps_if (pt_cmpR (op_eqP (by have := (hr).units; exact this)) (pe_ix ix_seq (pv 0) pe_int fun _ _ => rfl) pe_str (nomark _))
      (pss_cons (ps_set (i := 3) sc_law_ends_of.nd rfl (by first | exact Or.inl rfl | exact Or.inr rfl) (pe_lst pa_nil))
      (pss_cons (ps_for (passes_of rfl) rfl (pi_seq (pe_call (F_law_distinct.up (by omega)).ok hr rfl T.g_law_distinct.1 T.g_law_distinct.2 (F_law_distinct.up (by omega)).bn .nil (pass_own rfl rfl rfl rfl) (pa_cons (pe_call (F_law_ends_of.up (by omega)).ok hr rfl T.g_law_ends_of.1 T.g_law_ends_of.2 (F_law_ends_of.up (by omega)).bn .nil (pass_own rfl rfl rfl rfl) (pa_cons (pe_ix ix_seq (pv 0) pe_int fun _ _ => rfl) (pa_cons (pv 1) (pa_cons (pv 2) pa_nil)))) pa_nil))) (pg_name (i := 4) sc_law_ends_of.nd rfl (by first | exact Or.inl rfl | exact Or.inr rfl)) (pss_one (ps_set (i := 3) sc_law_ends_of.nd rfl (by first | exact Or.inl rfl | exact Or.inr rfl) (pe_op op_addU (pv 3) (pe_call (F_law_ends_of.up (by omega)).ok hr rfl T.g_law_ends_of.1 T.g_law_ends_of.2 (F_law_ends_of.up (by omega)).bn .nil (pass_own rfl rfl rfl rfl) (pa_cons (pe_ix ix_seq (pv 0) pe_int fun _ _ => rfl) (pa_cons (pv 1) (pa_cons (pv 4) pa_nil))))))))
      (pss_one (ps_ret (pv 3)))))
      pss_nil)
      (pss_cons (ps_set (i := 3) sc_law_ends_of.nd rfl (by first | exact Or.inl rfl | exact Or.inr rfl) (pe_lst (pa_cons (pv 2) pa_nil)))
      (pss_cons (ps_set (i := 5) sc_law_ends_of.nd rfl (by first | exact Or.inl rfl | exact Or.inr rfl) pe_int)
      (pss_cons (ps_while (passes_of rfl) (pt_cmpR op_lt (pv 5) (pe_callB call_lenU rfl T.n_len (by decide +kernel) (pa_cons (pv 3) pa_nil)) (nomark _)) (pss_cons (ps_for (passes_of rfl) rfl (pi_seq (pe_call (F_law_ends_of.up (by omega)).ok hr rfl T.g_law_ends_of.1 T.g_law_ends_of.2 (F_law_ends_of.up (by omega)).bn .nil (pass_own rfl rfl rfl rfl) (pa_cons (pe_ix ix_seq (pv 0) pe_int fun _ _ => rfl) (pa_cons (pv 1) (pa_cons (pe_ix ix_seq (pv 3) (pv 5) fun _ _ => rfl) pa_nil))))) (pg_name (i := 4) sc_law_ends_of.nd rfl (by first | exact Or.inl rfl | exact Or.inr rfl)) (pss_one (ps_if (pt_cmpR op_niU (pv 4) (pv 3) (by with_unfolding_all rfl))
      (pss_one (ps_expr (pe_bm PySem.F.plainAttrs_list PySem.F.slot_list_append PySem.F.type_list_append mt_append (pv 3) (pa_cons (pv 4) pa_nil))))
      pss_nil)))
      (pss_one (ps_set (i := 5) sc_law_ends_of.nd rfl (by first | exact Or.inl rfl | exact Or.inr rfl) (pe_op op_addU (pv 5) pe_int)))))
      (pss_one (ps_ret (pv 3)))))))))), fun ws ka out B F0 Q hC hR hX => ?_⟩)
  obtain ⟨a, b, c, rfl, t, ws, s, rfl, rfl, rfl, hd, h3, hw, hs, rfl, rfl⟩ := hC
  have bz : ∀ (u : Tr) (m : Nat), m ≤ ws.length → (endsL ws u m).length ≤ EB ws.length u := fun u m h2 => EB_len u m h2
  cases t with
  | «at» kd ns =>
    refine q_when (b := true) ((et_test (ev_inL (ss := ["any", "none"]) (ev_ixV (ev_var rfl) ev_int .vt at0) (ev_tup (ds := stD ["any", "none"]) (ea2 ev_str ev_str) (Nat.le_of_ble_eq_true rfl)) .vt)).to (by cases kd <;> decide)) (fun _ => ?_) (fun z => by cases z)
    have key : ∀ b : Bool, b = (decide ((s : Int) < ((stD ws).length : Int)) && atB (kd, ns) (ws.getD s "")) → endsL ws (.at kd ns) s = if b = true then [s + 1] else [] := fun b e => by
      subst e
      rw [stD_len]
      unfold endsL
      by_cases lt : s < ws.length
      · rw [List.getD_eq_getElem?_getD, List.getElem?_eq_getElem lt]
        have : decide ((s : Int) < (ws.length : Int)) = true := by simpa using lt
        rw [this, Bool.true_and]
        rfl
      · rw [List.getElem?_eq_none (by omega)]
        have : decide ((s : Int) < (ws.length : Int)) = false := by simpa using lt
        rw [this]
        rfl
    refine q_when (et_and (et_test (ev_lt (ev_var rfl) (ev_len (ev_var rfl) .vl))) fun hlt => et_B (b := atB (kd, ns) (ws.getD s "")) ?_) (fun hb => ?_) (fun hb => ?_)
    · rw [decide_eq_true_eq, stD_len] at hlt
      have lt : s < ws.length := by omega
      have hx : ws[s]? = some (ws.getD s "") := by rw [List.getD_eq_getElem?_getD, List.getElem?_eq_getElem lt]; rfl
      exact ev_callP (ea2 (ev_var rfl) (ev_ixV (ev_var rfl) (ev_var rfl) .vl (atI_nat (stD_get hx)))) ⟨_, _, rfl, kd, ns, _, rfl, rfl, rfl, rfl⟩
    · have e := key _ rfl
      rw [if_pos hb] at e
      exact g_ret hR ((evn_lst (ds := [.int ((s : Int) + 1)]) (ea1 (ev_addI (ev_var rfl) ev_int)) (Nat.le_of_ble_eq_true rfl)).lst.to (by rw [nm_one, ← e])) ⟨rfl, rfl⟩
    · have e := key _ rfl
      rw [if_neg (by rw [hb]; exact Bool.false_ne_true)] at e
      exact g_ret hR ((evn_lst (ds := []) ea_nil (Nat.le_of_ble_eq_true rfl)).lst.to (by rw [e]; rfl)) ⟨rfl, rfl⟩
  | either x y =>
    have hx : max x.dep y.dep + 1 < d + 1 := hd
    have z1 := bz x s hs
    have z2 := bz y s hs
    have z3 := h3.2.2
    refine q_when (b := false) ((et_test (ev_inL (ss := ["any", "none"]) (ev_ixV (ev_var rfl) ev_int .vt at0) (ev_tup (ds := stD ["any", "none"]) (ea2 ev_str ev_str) (Nat.le_of_ble_eq_true rfl)) .vt)).to (by decide)) (fun z => by cases z) (fun _ => ?_)
    refine q_when (b := true) ((et_test (ev_eqS (ev_ixV (ev_var rfl) ev_int .vt at0) ev_str)).to (by decide)) (fun _ => ?_) (fun z => by cases z)
    exact g_ret hR ((ev_catL (ev_callP (ea3 (ev_ixV (ev_var rfl) ev_int .vt (atI_nat (j := 1) rfl)) (ev_var rfl) (ev_var rfl)) ⟨_, _, _, rfl, x, ws, s, rfl, rfl, rfl, by omega, h3.1, hw, hs, rfl, rfl⟩)
      (ev_callP (ea3 (ev_ixV (ev_var rfl) ev_int .vt (atI_nat (j := 2) rfl)) (ev_var rfl) (ev_var rfl)) ⟨_, _, _, rfl, y, ws, s, rfl, rfl, rfl, by omega, h3.2.1, hw, hs, rfl, rfl⟩) (by rw [nm_len, nm_len]; omega)).to (by rw [nm_app]; rfl)) ⟨rfl, rfl⟩
  | opt x =>
    have hx : x.dep + 1 < d + 1 := hd
    have z1 := bz x s hs
    have z2 := h3.2
    refine q_when (b := false) ((et_test (ev_inL (ss := ["any", "none"]) (ev_ixV (ev_var rfl) ev_int .vt at0) (ev_tup (ds := stD ["any", "none"]) (ea2 ev_str ev_str) (Nat.le_of_ble_eq_true rfl)) .vt)).to (by decide)) (fun z => by cases z) (fun _ => ?_)
    refine q_when (b := false) ((et_test (ev_eqS (ev_ixV (ev_var rfl) ev_int .vt at0) ev_str)).to (by decide)) (fun z => by cases z) (fun _ => ?_)
    refine q_when (b := true) ((et_test (ev_eqS (ev_ixV (ev_var rfl) ev_int .vt at0) ev_str)).to (by decide)) (fun _ => ?_) (fun z => by cases z)
    exact g_ret hR (ev_catL (ds := nmD [s]) (evn_lst (ds := [.int (s : Int)]) (ea1 (ev_var rfl)) (Nat.le_of_ble_eq_true rfl)).lst
      (ev_callP (ea3 (ev_ixV (ev_var rfl) ev_int .vt (atI_nat (j := 1) rfl)) (ev_var rfl) (ev_var rfl)) ⟨_, _, _, rfl, x, ws, s, rfl, rfl, rfl, by omega, h3.1, hw, hs, rfl, rfl⟩) (by rw [nm_len, nm_len, List.length_singleton]; omega)) ⟨rfl, rfl⟩
  | join x y =>
    have hx : max x.dep y.dep + 1 < d + 1 := hd
    have z1 := bz x s hs
    have z3 := h3.2.2.1
    have z4 := h3.2.2.2
    refine q_when (b := false) ((et_test (ev_inL (ss := ["any", "none"]) (ev_ixV (ev_var rfl) ev_int .vt at0) (ev_tup (ds := stD ["any", "none"]) (ea2 ev_str ev_str) (Nat.le_of_ble_eq_true rfl)) .vt)).to (by decide)) (fun z => by cases z) (fun _ => ?_)
    refine q_when (b := false) ((et_test (ev_eqS (ev_ixV (ev_var rfl) ev_int .vt at0) ev_str)).to (by decide)) (fun z => by cases z) (fun _ => ?_)
    refine q_when (b := false) ((et_test (ev_eqS (ev_ixV (ev_var rfl) ev_int .vt at0) ev_str)).to (by decide)) (fun z => by cases z) (fun _ => ?_)
    refine q_when (b := true) ((et_test (ev_eqS (ev_ixV (ev_var rfl) ev_int .vt at0) ev_str)).to (by decide)) (fun _ => ?_) (fun z => by cases z)
    refine q_asg (evn_lst (ds := []) ea_nil (Nat.le_of_ble_eq_true rfl)).lst ?_
    have whole : ((dedN (endsL ws x s)).flatMap (endsL ws y)).length ≤ 90000 := Nat.le_trans (bz (.join x y) s hs) h3.2.2.2
    have part : ∀ i, (((dedN (endsL ws x s)).take i).flatMap (endsL ws y)).length ≤ 90000 := fun i => Nat.le_trans (by
      have e := congrArg List.length (congrArg (List.flatMap (endsL ws y)) (List.take_append_drop i (dedN (endsL ws x s))))
      rw [List.flatMap_append, List.length_append] at e
      omega) whole
    refine q_forn (C := fun _ => True) (EvI.ws (ws' := (dedN (endsL ws x s)).map fun n : Nat => W.val (.int (n : Int))) (ei_seq (ds := nmD (dedN (endsL ws x s))) (ev_callP (ea1 (ev_callP (ea3 (ev_ixV (ev_var rfl) ev_int .vt (atI_nat (j := 1) rfl)) (ev_var rfl) (ev_var rfl)) ⟨_, _, _, rfl, x, ws, s, rfl, rfl, rfl, by omega, h3.1, hw, hs, rfl, rfl⟩)) ⟨_, rfl, endsL ws x s, rfl, by omega, rfl, rfl⟩) .vl) (by unfold nmD; rw [List.map_map]; rfl))
      (fun i ro ka => ∃ v v2, ro = [some (.val ((Tr.join x y).d true)), some (.val (.lst (stD ws))), some (.val (.int (s : Int))), some (.val (.lst (nmD (((dedN (endsL ws x s)).take i).flatMap (endsL ws y))))), v, v2] ∧ ka = []) ⟨none, none, rfl, rfl⟩ (fun _ _ _ _ => trivial) (fun i w ro2 ka2 ta' hw2 ⟨v, v2, e1, e2⟩ => ?_) (fun ro2 ka2 ta' ⟨v, v2, e1, e2⟩ _ => ?_)
    · subst e1 e2
      rw [List.getElem?_map] at hw2
      obtain ⟨m, hm, rfl⟩ := Option.map_eq_some_iff.mp hw2
      have hml : m ≤ ws.length := endsL_le hs m (dedN_mem.mp (List.mem_of_getElem? hm))
      have grow : ((dedN (endsL ws x s)).take (i + 1)).flatMap (endsL ws y) = ((dedN (endsL ws x s)).take i).flatMap (endsL ws y) ++ endsL ws y m := by
        rw [take_succ_some hm, List.flatMap_append]
        show _ ++ (_ ++ []) = _
        rw [List.append_nil]
      have pz := part i
      have pz2 := part (i + 1)
      rw [grow, List.length_append] at pz2
      refine g_asg ((ev_catL (ev_var rfl) (ev_callP (ea3 (ev_ixV (ev_var rfl) ev_int .vt (atI_nat (j := 2) rfl)) (ev_var rfl) (ev_var rfl)) ⟨_, _, _, rfl, y, ws, m, rfl, rfl, rfl, by omega, h3.2.1, hw, hml, rfl, rfl⟩) (by rw [nm_len, nm_len]; omega)).to (by rw [nm_app, ← grow])) (g_jp ⟨_, v2, rfl, rfl⟩)
    · subst e1 e2
      rw [List.length_map, List.take_length]
      exact g_ret hR (ev_var rfl) ⟨rfl, rfl⟩
  | rep x =>
    have hx : x.dep + 1 < d + 1 := hd
    have z2 := h3.2
    have bd : ∀ m ≤ ws.length, ∀ k ∈ endsL ws x m, k ≤ ws.length := fun m hm => endsL_le hm
    refine q_when (b := false) ((et_test (ev_inL (ss := ["any", "none"]) (ev_ixV (ev_var rfl) ev_int .vt at0) (ev_tup (ds := stD ["any", "none"]) (ea2 ev_str ev_str) (Nat.le_of_ble_eq_true rfl)) .vt)).to (by decide)) (fun z => by cases z) (fun _ => ?_)
    refine q_when (b := false) ((et_test (ev_eqS (ev_ixV (ev_var rfl) ev_int .vt at0) ev_str)).to (by decide)) (fun z => by cases z) (fun _ => ?_)
    refine q_when (b := false) ((et_test (ev_eqS (ev_ixV (ev_var rfl) ev_int .vt at0) ev_str)).to (by decide)) (fun z => by cases z) (fun _ => ?_)
    refine q_when (b := false) ((et_test (ev_eqS (ev_ixV (ev_var rfl) ev_int .vt at0) ev_str)).to (by decide)) (fun z => by cases z) (fun _ => ?_)
    refine q_asgN (evn_lst (ds := [.int (s : Int)]) (ea1 (ev_var rfl)) (Nat.le_of_ble_eq_true rfl)) (fun a => ?_)
    refine q_asg ev_int ?_
    refine q_while (fun n ro ka => ∃ (found : List Nat) (i : Nat) (v : Option W), ro = [some (.val ((Tr.rep x).d true)), some (.val (.lst (stD ws))), some (.val (.int (s : Int))), some (.val (.adr a)), v, some (.val (.int (i : Int)))] ∧ ka = [(a, .lst (nmD found))] ∧ RepI (endsL ws x) ws.length s n found i ∧ repGo (endsL ws x) n found i = endsL ws (.rep x) s)
      (ws.length + 2) ⟨[s], 0, none, rfl, rfl, .begin hs, rfl⟩ (fun n ro2 ka2 ⟨found, i, v, e1, e2, inv, fin⟩ => ?_)
    subst e1 e2
    have fl := nodup_le inv.nd inv.le
    have ia := inv.at_
    have ifu := inv.fuel
    refine ⟨_, _, et_test (ev_lt (ev_var rfl) (ev_len (ev_var rfl) (.ce 0 rfl))), fun hb => ?_, fun hb => ?_⟩
    · rw [decide_eq_true_eq, nm_len] at hb
      have lt : i < found.length := by omega
      obtain ⟨p, hp⟩ : ∃ p, found[i]? = some p := ⟨_, List.getElem?_eq_getElem lt⟩
      have hpl := inv.le p (List.mem_of_getElem? hp)
      obtain ⟨n, rfl⟩ : ∃ n', n = n' + 1 := ⟨n - 1, by omega⟩
      have nx := inv.next bd hp
      have go : repGo (endsL ws x) (n + 1) found i = repGo (endsL ws x) n (addN found (endsL ws x p)) (i + 1) := by
        show (match found[i]? with | none => found | some p => repGo (endsL ws x) n (addN found (endsL ws x p)) (i + 1)) = _
        rw [hp]
      refine q_forn (C := fun _ => True) (EvI.ws (ws' := (endsL ws x p).map fun n : Nat => W.val (.int (n : Int))) (ei_seq (ds := nmD (endsL ws x p)) (ev_callP (ea3 (ev_ixV (ev_var rfl) ev_int .vt (atI_nat (j := 1) rfl)) (ev_var rfl) (ev_ixV (ev_var rfl) (ev_var rfl) (.ce 0 rfl) (atI_nat (nm_get hp)))) ⟨_, _, _, rfl, x, ws, p, rfl, rfl, rfl, by omega, h3.1, hw, hpl, rfl, rfl⟩) .vl) (by unfold nmD; rw [List.map_map]; rfl))
        (fun j ro ka => ∃ v, ro = [some (.val ((Tr.rep x).d true)), some (.val (.lst (stD ws))), some (.val (.int (s : Int))), some (.val (.adr a)), v, some (.val (.int (i : Int)))] ∧ ka = [(a, .lst (nmD (addN found ((endsL ws x p).take j))))]) ⟨v, rfl, rfl⟩ (fun _ _ _ _ => trivial) (fun j w ro2 ka2 ta' hw2 ⟨v, e1, e2⟩ => ?_) (fun ro2 ka2 ta' ⟨v, e1, e2⟩ hsub => ?_)
      · subst e1 e2
        rw [List.getElem?_map] at hw2
        obtain ⟨k, hk, rfl⟩ := Option.map_eq_some_iff.mp hw2
        have step : addN found ((endsL ws x p).take (j + 1)) = if k ∈ addN found ((endsL ws x p).take j) then addN found ((endsL ws x p).take j) else addN found ((endsL ws x p).take j) ++ [k] := by
          rw [take_succ_some hk]
          exact List.foldl_append ..
        have fj : (addN found ((endsL ws x p).take j)).length ≤ ws.length + 1 := nodup_le (addN_nodup _ _ inv.nd) fun y hy => by
          rcases (addN_mem _ _).mp hy with z | z
          · exact inv.le y z
          · exact bd p hpl y (List.mem_of_mem_take z)
        refine g_if (et_test (ev_niN (ev_var rfl) (ev_var rfl) (.ce 0 rfl))) (fun hb => ?_) (fun hb => g_next (g_jp ⟨_, rfl, ?_⟩))
        · rw [Bool.not_eq_true', decide_eq_false_iff_not] at hb
          refine g_app (j0 := 0) (j := 0) (d := .int (k : Int)) (ev_var rfl) rfl (ev_var rfl) rfl (by rw [nm_len]; omega) (g_jp ⟨_, rfl, ?_⟩)
          rw [step, if_neg hb, ← nm_app]
          rfl
        · rw [Bool.not_eq_false', decide_eq_true_eq] at hb
          rw [step, if_pos hb]
      · subst e1 e2
        rw [List.length_map, List.take_length]
        refine g_asg (ev_addI (ev_var rfl) ev_int) (g_jpH hsub ⟨n, Nat.lt_succ_self _, addN found (endsL ws x p), i + 1, v, ?_, rfl, nx, go ▸ fin⟩)
        rfl
    · rw [decide_eq_false_iff_not, nm_len] at hb
      have hn : found[i]? = none := List.getElem?_eq_none (by omega)
      have done : found = endsL ws (.rep x) s := by
        rw [← fin]
        cases n with
        | zero => rfl
        | succ n =>
          show found = (match found[i]? with | none => found | some p => repGo (endsL ws x) n (addN found (endsL ws x p)) (i + 1))
          rw [hn]
      exact Gp.frz (i := 3) (j := 0) rfl rfl (g_ret hR ((ev_var rfl).to (by rw [done])) ⟨rfl, rfl⟩)
end
def ct_law_is_word (K : PySem.W.Frag) : Ct := Ct2 fun a b ka out => ∃ (t : Tr) (ws : List Str), a = .val (t.d true) ∧ b = .val (.lst (stD ws)) ∧ t.dep < 8 ∧ EbOk ws.length t ∧ ws.length ≤ 1000 ∧ ka = [] ∧ out = Rt (.bl (decide (ws.length ∈ endsL ws t 0))) []
section
variable {P : Program} {w : World} {K : PySem.W.Frag} {mg : Str → Option Value} {base : Heap}
theorem ok_law_is_word (T : Tx K mg) (F_law_ends_of : Fn P w K mg base 22 (He.ga K "_law_ends_of") ["_law_tree_here", "_law_lanes", "_law_start"] (ct_law_ends_of 8 K)) : Fn P w K mg base 24 (He.ga K "_law_is_word") ["_law_tree_here", "_law_lanes"] (ct_law_is_word K) := by
  obtain ⟨fd, F⟩ := T.d_law_is_word
  refine fn_ok F sc_law_is_word (fun _ _ _ _ _ _ us hl => match us, hl with | [_, _], _ => rfl) ct2_len (fun cdv A outer s H E hr => ⟨_, (pss_one (ps_ret (pe_cmpR op_inU (pe_callB call_lenU rfl T.n_len (by decide +kernel) (pa_cons (pv 1) pa_nil)) (pe_call (F_law_ends_of.up (by decide)).ok hr rfl T.g_law_ends_of.1 T.g_law_ends_of.2 (F_law_ends_of.up (by decide)).bn .nil (pass_own rfl rfl rfl rfl) (pa_cons (pv 0) (pa_cons (pv 1) (pa_cons pe_int pa_nil)))) (by with_unfolding_all rfl)))), fun ws ka out B F0 Q hC hR hX => ?_⟩)
  obtain ⟨a, b, rfl, t, ws, rfl, rfl, hd, he, hw, rfl, rfl⟩ := hC
  refine g_ret hR (ev_inN (n := ws.length) (ns := endsL ws t 0) ((ev_len (ev_var rfl) .vl).to (by rw [stD_len])) (ev_callP (ea3 (ev_var rfl) (ev_var rfl) ev_int) ⟨_, _, _, rfl, t, ws, 0, rfl, rfl, rfl, by omega, he, hw, Nat.zero_le _, rfl, rfl⟩) .vl) ⟨rfl, rfl⟩
end
/-- all rows of so many names -/
def rowsW (ns : List Str) : Nat → List (List Str)
  | 0 => [[]]
  | n + 1 => (rowsW ns n).flatMap fun r => ns.map fun x => r ++ [x]
def allW (ns : List Str) (n : Nat) : List (List Str) := (List.range (n + 1)).flatMap (rowsW ns)
def rowD (rs : List (List Str)) : List D := rs.map fun r => .lst (stD r)
theorem rowD_app (a b : List (List Str)) : rowD a ++ rowD b = rowD (a ++ b) := (List.map_append ..).symm
theorem rowD_len (a : List (List Str)) : (rowD a).length = a.length := List.length_map _
theorem rowsW_len (ns : List Str) : ∀ n, (rowsW ns n).length = ns.length ^ n
  | 0 => rfl
  | n + 1 => by
    have all : ∀ l : List (List Str), (l.flatMap fun r => ns.map fun x => r ++ [x]).length = l.length * ns.length := by
      intro l
      induction l with
      | nil => simp
      | cons r l ih =>
        rw [List.flatMap_cons, List.length_append, ih, List.length_map, List.length_cons, Nat.succ_mul]
        omega
    show ((rowsW ns n).flatMap fun r => ns.map fun x => r ++ [x]).length = _
    rw [all, rowsW_len ns n, Nat.pow_succ]
theorem rowsW_in (ns : List Str) : ∀ n, ∀ r ∈ rowsW ns n, r.length = n ∧ ∀ x ∈ r, x ∈ ns
  | 0, r, h => by
    rw [List.mem_singleton.mp h]
    exact ⟨rfl, fun x hx => by cases hx⟩
  | n + 1, r, h => by
    obtain ⟨q, hq, hr⟩ := List.mem_flatMap.mp h
    obtain ⟨x, hx, rfl⟩ := List.mem_map.mp hr
    obtain ⟨h1, h2⟩ := rowsW_in ns n q hq
    refine ⟨by rw [List.length_append, h1]; rfl, fun y hy => ?_⟩
    rcases List.mem_append.mp hy with hy | hy
    · exact h2 y hy
    · rw [List.mem_singleton.mp hy]; exact hx
theorem allW_in {ns : List Str} {n : Nat} : ∀ r ∈ allW ns n, r.length ≤ n ∧ ∀ x ∈ r, x ∈ ns := fun r h => by
  obtain ⟨i, hi, hr⟩ := List.mem_flatMap.mp h
  have := List.mem_range.mp hi
  obtain ⟨h1, h2⟩ := rowsW_in ns i r hr
  exact ⟨by omega, h2⟩
theorem allW_succ (ns : List Str) (n : Nat) : allW ns (n + 1) = allW ns n ++ rowsW ns (n + 1) := by
  unfold allW
  rw [List.range_succ (n := n + 1), List.flatMap_append]
  show _ ++ (_ ++ []) = _
  rw [List.append_nil]
theorem allW_len {ns : List Str} (h : ns.length ≤ 4) : ∀ n ≤ 4, (allW ns n).length ≤ 341 ∧ (rowsW ns n).length ≤ 256 := by
  intro n hn
  have r : ∀ k, (rowsW ns k).length ≤ 4 ^ k := fun k => by rw [rowsW_len]; exact Nat.pow_le_pow_left h k
  have s : ∀ k, (allW ns (k + 1)).length ≤ (allW ns k).length + 4 ^ (k + 1) := fun k => by
    have := r (k + 1)
    rw [allW_succ, List.length_append]
    omega
  have z : (allW ns 0).length = 1 := rfl
  have s0 : (allW ns 1).length ≤ (allW ns 0).length + 4 ^ 1 := s 0
  have s1 : (allW ns 2).length ≤ (allW ns 1).length + 4 ^ 2 := s 1
  have s2 : (allW ns 3).length ≤ (allW ns 2).length + 4 ^ 3 := s 2
  have s3 : (allW ns 4).length ≤ (allW ns 3).length + 4 ^ 4 := s 3
  have rn := r n
  rcases (by omega : n = 0 ∨ n = 1 ∨ n = 2 ∨ n = 3 ∨ n = 4) with rfl | rfl | rfl | rfl | rfl <;> exact ⟨by omega, Nat.le_trans rn (by decide)⟩
def ct_law_all_words (K : PySem.W.Frag) : Ct := Ct2 fun a b ka out => ∃ ns : List Str, a = .val (.lst (stD ns)) ∧ b = .val (.int 4) ∧ ns.length ≤ 4 ∧ ka = [] ∧ out = Rt (.lst (rowD (allW ns 4))) []
section
variable {P : Program} {w : World} {K : PySem.W.Frag} {mg : Str → Option Value} {base : Heap}
theorem ok_law_all_words (T : Tx K mg) : Fn P w K mg base 4 (He.ga K "_law_all_words") ["_law_names_here", "_law_most"] (ct_law_all_words K) := by
  obtain ⟨fd, F⟩ := T.d_law_all_words
  refine fn_ok F sc_law_all_words (fun _ _ _ _ _ _ us hl => match us, hl with | [_, _], _ => rfl) ct2_len (fun cdv A outer s H E hr => ⟨_, (pss_cons (ps_set (i := 2) sc_law_all_words.nd rfl (by first | exact Or.inl rfl | exact Or.inr rfl) (pe_lst (pa_cons (pe_lst pa_nil) pa_nil)))
      (pss_cons (ps_set (i := 3) sc_law_all_words.nd rfl (by first | exact Or.inl rfl | exact Or.inr rfl) (pe_lst (pa_cons (pe_lst pa_nil) pa_nil)))
      (pss_cons (ps_for (passes_of rfl) rfl (pi_range1 rfl T.n_range (pa_cons (pv 1) pa_nil)) (pg_name (i := 4) sc_law_all_words.nd rfl (by first | exact Or.inl rfl | exact Or.inr rfl)) (pss_cons (ps_set (i := 5) sc_law_all_words.nd rfl (by first | exact Or.inl rfl | exact Or.inr rfl) (pe_lst pa_nil))
      (pss_cons (ps_for (passes_of rfl) rfl (pi_seq (pv 2)) (pg_name (i := 6) sc_law_all_words.nd rfl (by first | exact Or.inl rfl | exact Or.inr rfl)) (pss_one (ps_set (i := 5) sc_law_all_words.nd rfl (by first | exact Or.inl rfl | exact Or.inr rfl) (pe_op op_addU (pv 5) (pe_lc (te := (tOp (rAddU K) (tVar 6) (tLst (tCons (tVar 7) tNil)))) (tt := tYes) (own := [("_law_name", 7)]) rfl sc_law_all_words.nd (pi_seq (pv 0)) (blk_ok ["_law_names_here", "_law_most", "_law_rows", "_law_found", "_law_length", "_law_longer", "_law_row", "_law_name"] (defScope s_law_all_words) rfl rfl (by decide +kernel)) (fun _ _ _ _ _ => (pg_name (i := 7) sc_law_all_words.nd rfl (by first | exact Or.inl rfl | exact Or.inr rfl))) (fun _ _ _ _ _ => pts_nil) (fun _ _ _ _ _ => (pe_op op_addU (pv 6) (pe_lst (pa_cons (pv 7) pa_nil)))))))))
      (pss_cons (ps_set (i := 2) sc_law_all_words.nd rfl (by first | exact Or.inl rfl | exact Or.inr rfl) (pv 5))
      (pss_one (ps_set (i := 3) sc_law_all_words.nd rfl (by first | exact Or.inl rfl | exact Or.inr rfl) (pe_op op_addU (pv 3) (pv 2))))))))
      (pss_one (ps_ret (pv 3)))))), fun ws ka out B F0 Q hC hR hX => ?_⟩)
  obtain ⟨a, b, rfl, ns, rfl, rfl, hl, rfl, rfl⟩ := hC
  refine q_asg (w := .val (.lst (rowD (rowsW ns 0)))) (evn_lst (ds := [.lst []]) (ea1 (evn_lst (ds := []) ea_nil (Nat.le_of_ble_eq_true rfl)).lst) (Nat.le_of_ble_eq_true rfl)).lst ?_
  refine q_asg (w := .val (.lst (rowD (allW ns 0)))) (evn_lst (ds := [.lst []]) (ea1 (evn_lst (ds := []) ea_nil (Nat.le_of_ble_eq_true rfl)).lst) (Nat.le_of_ble_eq_true rfl)).lst ?_
  refine q_forn (ei_range1 (ea1 (ev_var rfl)) (by decide) (by decide)) (fun i ro ka => ∃ v1 v2 v3 v4, ro = [some (.val (.lst (stD ns))), some (.val (.int 4)), some (.val (.lst (rowD (rowsW ns i)))), some (.val (.lst (rowD (allW ns i)))), v1, v2, v3, v4] ∧ ka = []) ⟨none, none, none, none, rfl, rfl⟩ (fun _ _ _ _ => trivial) (fun i w ro2 ka2 ta' hw ⟨v1, v2, v3, v4, e1, e2⟩ => ?_) (fun ro2 ka2 ta' ⟨v1, v2, v3, v4, e1, e2⟩ _ => ?_)
  · subst e1 e2
    have hi : i < 4 := by
      have := (List.getElem?_eq_some_iff.mp hw).1
      rw [List.length_map, List.length_range] at this
      exact this
    have hz := (allW_len hl (i + 1) (by omega))
    have hz2 := hz.1
    rw [allW_succ, List.length_append] at hz2
    refine q_asg (w := .val (.lst (rowD (((rowsW ns i).take 0).flatMap fun r => ns.map fun x => r ++ [x])))) (evn_lst (ds := []) ea_nil (Nat.le_of_ble_eq_true rfl)).lst ?_
    refine q_forn (C := fun _ => True) (EvI.ws (ws' := (rowsW ns i).map fun r : List Str => W.val (.lst (stD r))) (ei_seq (ds := rowD (rowsW ns i)) (ev_var rfl) .vl) (by unfold rowD; rw [List.map_map]; rfl))
      (fun j ro ka => ∃ v1 v3 v4, ro = [some (.val (.lst (stD ns))), some (.val (.int 4)), some (.val (.lst (rowD (rowsW ns i)))), some (.val (.lst (rowD (allW ns i)))), v1, some (.val (.lst (rowD (((rowsW ns i).take j).flatMap fun r => ns.map fun x => r ++ [x])))), v3, v4] ∧ ka = []) ⟨_, _, _, rfl, rfl⟩ (fun _ _ _ _ => trivial) (fun j w ro2 ka2 ta2 hw2 ⟨v1, v3, v4, e1, e2⟩ => ?_) (fun ro2 ka2 ta2 ⟨v1, v3, v4, e1, e2⟩ hsub => ?_)
    · subst e1 e2
      rw [List.getElem?_map] at hw2
      obtain ⟨r, hr, rfl⟩ := Option.map_eq_some_iff.mp hw2
      have rl := (rowsW_in ns i r (List.mem_of_getElem? hr)).1
      have grow : ((rowsW ns i).take (j + 1)).flatMap (fun r => ns.map fun x => r ++ [x]) = ((rowsW ns i).take j).flatMap (fun r => ns.map fun x => r ++ [x]) ++ ns.map fun x => r ++ [x] := by
        rw [take_succ_some hr, List.flatMap_append]
        show _ ++ (_ ++ []) = _
        rw [List.append_nil]
      have part : (((rowsW ns i).take (j + 1)).flatMap (fun r => ns.map fun x => r ++ [x])).length ≤ 256 := by
        refine Nat.le_trans ?_ hz.2
        show _ ≤ ((rowsW ns i).flatMap fun r => ns.map fun x => r ++ [x]).length
        have e := congrArg List.length (congrArg (List.flatMap fun r => ns.map fun x => r ++ [x]) (List.take_append_drop (j + 1) (rowsW ns i)))
        rw [List.flatMap_append, List.length_append] at e
        omega
      rw [grow, List.length_append, List.length_map] at part
      refine g_asg ((ev_catL (ds := rowD (((rowsW ns i).take j).flatMap fun r => ns.map fun x => r ++ [x])) (es := rowD (ns.map fun x => r ++ [x])) (ev_var rfl) ((evn_map (xs := ns) (g := fun s => W.val (.str s)) (f := fun x => D.lst (stD r ++ stD [x])) (ei_strs (ev_var rfl)) (by decide) (by omega) ⟨trivial, fun _ => trivial⟩ (fun x hx => ev_catL (ev_var rfl) (evn_lst (ds := [.str x]) (ea1 (ev_var rfl)) (Nat.le_of_ble_eq_true rfl)).lst (by rw [stD_len]; exact Nat.le_trans (Nat.add_le_add_right (m := 4) (by omega) _) (Nat.le_of_ble_eq_true rfl)))).lst.to (congrArg (fun z => W.val (.lst z)) (by unfold rowD; rw [List.map_map]; exact List.map_congr_left fun x _ => by rw [stD_app]; rfl))) (by rw [rowD_len, rowD_len, List.length_map]; omega)).to (by rw [rowD_app, ← grow])) (g_jp ⟨_, _, _, rfl, rfl⟩)
    · subst e1 e2
      rw [List.length_map, List.take_length]
      refine q_asg (w := .val (.lst (rowD (rowsW ns (i + 1))))) (ev_var rfl) ?_
      exact g_asg ((ev_catL (ev_var rfl) (ev_var rfl) (by rw [rowD_len, rowD_len]; omega)).to (by rw [rowD_app, ← allW_succ])) (g_jpH hsub ⟨_, _, _, _, rfl, rfl⟩)
  · subst e1 e2
    exact g_ret hR (ev_var rfl) ⟨rfl, rfl⟩
end
def ct_law_second (K : PySem.W.Frag) : Ct := Ct3 fun s b c ka out => ∃ a p n ls t, s = .val (.adr a) ∧ b = .val (.lst (stD ls)) ∧ c = .val (t.d true) ∧ ka = [(a, .lst (Pl.ds p))] ∧ p.Ok n ∧ 0 ≤ n ∧ n ≤ 800000 ∧ ls ≠ [] ∧ ls.length ≤ 100 ∧ (∀ x ∈ ls, isNm x = true) ∧ niceT t ∧ t.dep ≤ 2 ∧
  out = fun o k => ∃ u p', o = .ret (Tr.d true u) ∧ k = [(a, .lst (Pl.ds p'))] ∧ p'.Ok (n + 40) ∧ SecT t u
theorem rep_d {t : Tr} : (∃ x, t = .rep x) ∨ ∀ x, t ≠ .rep x := by
  cases t with
  | rep x => exact .inl ⟨x, rfl⟩
  | _ => exact .inr fun x z => by cases z
section
variable {P : Program} {w : World} {K : PySem.W.Frag} {mg : Str → Option Value} {base : Heap}
theorem ok_law_second (T : Tx K mg) (F_law_take : Fn P w K mg base 4 (He.ga K "_law_take") ["_law_pool_here", "_law_many"] (ct_law_take K)) (F_law_tree : Fn P w K mg base 14 (He.ga K "_law_tree") ["_law_pool_here", "_law_lanes", "_law_depth"] (ct_law_tree 4 K)) : Fn P w K mg base 16 (He.ga K "_law_second") ["_law_pool_here", "_law_names_here", "_law_one"] (ct_law_second K) := by
  obtain ⟨fd, F⟩ := T.d_law_second
  refine fn_ok F sc_law_second (fun _ _ _ _ _ _ us hl => match us, hl with | [_, _, _], _ => rfl) ct3_len (fun cdv A outer s H E hr => ⟨_, (pss_cons (ps_set (i := 3) sc_law_second.nd rfl (by first | exact Or.inl rfl | exact Or.inr rfl) (pe_call (F_law_take.up (by decide)).ok hr rfl T.g_law_take.1 T.g_law_take.2 (F_law_take.up (by decide)).bn .nil (pass_own rfl rfl rfl rfl) (pa_cons (pv 0) (pa_cons pe_int pa_nil))))
      (pss_cons (ps_if (pt_cmpR (op_eqP (by have := (hr).units; exact this)) (pv 3) pe_int (nomark _))
      (pss_one (ps_ret (pe_tup (pa_cons pe_str (pa_cons (pv 2) pa_nil)))))
      pss_nil)
      (pss_cons (ps_if (pt_cmpR (op_eqP (by have := (hr).units; exact this)) (pv 3) pe_int (nomark _))
      (pss_one (ps_ret (pe_tup (pa_cons pe_str (pa_cons (pe_call (F_law_tree.up (by decide)).ok hr rfl T.g_law_tree.1 T.g_law_tree.2 (F_law_tree.up (by decide)).bn .nil (pass_own rfl rfl rfl rfl) (pa_cons (pv 0) (pa_cons (pv 1) (pa_cons pe_int pa_nil)))) (pa_cons (pv 2) pa_nil))))))
      pss_nil)
      (pss_cons (ps_if (pt_cmpR (op_eqP (by have := (hr).units; exact this)) (pv 3) pe_int (nomark _))
      (pss_one (ps_ret (pe_tup (pa_cons pe_str (pa_cons (pv 2) (pa_cons (pe_tup (pa_cons pe_str (pa_cons (pe_lst (pa_cons (pe_ix ix_seq (pv 1) pe_int fun _ _ => rfl) pa_nil)) pa_nil))) pa_nil))))))
      pss_nil)
      (pss_cons (ps_if (PW.pt (pw_and (pt_cmpR (op_eqP (by have := (hr).units; exact this)) (pv 3) pe_int (nomark _)) (pw_and1 (pt_cmpR (op_eqP (by have := (hr).units; exact this)) (pe_ix ix_seq (pv 2) pe_int fun _ _ => rfl) pe_str (nomark _)))))
      (pss_one (ps_ret (pe_tup (pa_cons pe_str (pa_cons (pe_tup (pa_cons pe_str (pa_cons (pe_ix ix_seq (pv 2) pe_int fun _ _ => rfl) pa_nil))) pa_nil)))))
      pss_nil)
      (pss_one (ps_ret (pe_call (F_law_tree.up (by decide)).ok hr rfl T.g_law_tree.1 T.g_law_tree.2 (F_law_tree.up (by decide)).bn .nil (pass_own rfl rfl rfl rfl) (pa_cons (pv 0) (pa_cons (pv 1) (pa_cons pe_int pa_nil))))))))))), fun ws ka out B F0 Q hC hR hX => ?_⟩)
  obtain ⟨s, b, c, rfl, a, p, n, ls, t, rfl, rfl, rfl, rfl, hp, hn0, hn, hne, hl, hnm, nt, dt, rfl⟩ := hC
  have t1 := tk_lt p (m := 6) (by decide)
  have o1 := tk_ok hp (m := 6) (by decide)
  refine q_asg (ev_take (kr := []) (ev_var rfl) ev_int (hp.up (by omega)) (by decide) (by decide)) ?_
  generalize (tk p 6).2 = p1 at *
  generalize (tk p 6).1 = kind at *
  refine q_when (et_test (ev_eqI (ev_var rfl) ev_int)) (fun _ => ?_) (fun _ => ?_)
  · exact g_ret hR (ev_tup (ds := [.str "option", t.d true]) (ea2 ev_str (ev_var rfl)) (Nat.le_of_ble_eq_true rfl)) ⟨.opt t, p1, rfl, rfl, o1.up (by omega), sec_opt nt dt⟩
  refine q_when (et_test (ev_eqI (ev_var rfl) ev_int)) (fun _ => ?_) (fun _ => ?_)
  · refine g_retE hR (evr_tupR (R := fun ws k => ∃ (v : Tr) (p' : Pl), ws = [D.str "either", v.d true, t.d true].map W.val ∧ k = [(a, .lst (Pl.ds p'))] ∧ p'.Ok (n + 40) ∧ v.dep ≤ 1 ∧ niceT v) ((ear_cD ev_str (ear_cons (evr_call (k1 := [(a, .lst (Pl.ds p1))]) [] (ea3 (ev_var rfl) (ev_var rfl) (ev_int (i := 1))) ⟨_, _, _, rfl, a, p1, n + 1, ls, 1, rfl, rfl, rfl, rfl, o1, by omega, by show n + 1 + 16 ≤ 900000; omega, by decide, hne, hl, hnm, rfl⟩ (fun o k ⟨t, p', h, _⟩ => ⟨_, h⟩)) (R := fun w ws k => ∃ (v : Tr) (p' : Pl), w = .val (v.d true) ∧ ws = [W.val (t.d true)] ∧ k = [(a, .lst (Pl.ds p'))] ∧ p'.Ok (n + 40) ∧ v.dep ≤ 1 ∧ niceT v) ?_)).imp ?_) ?_) ?_
    · rintro w k ⟨d, k2, ⟨v, p2, e1, rfl, o2, vd, vn, _⟩, rfl, rfl⟩
      cases e1
      exact (ea1 (ev_var rfl)).toR.imp fun ws k ⟨e1, e2⟩ => ⟨v, p2, rfl, e1, e2, o2.up (by show n + 1 + 16 - 1 ≤ _; omega), vd, vn⟩
    · rintro ws k ⟨ws', rfl, w, ws2, rfl, v, p2, rfl, rfl, h⟩
      exact ⟨v, p2, rfl, h⟩
    · rintro ws k ⟨v, p2, rfl, _⟩
      exact ⟨_, rfl, Nat.le_of_ble_eq_true rfl⟩
    · rintro w k ⟨ds, ⟨v, p2, e, rfl, o2, vd, vn⟩, rfl⟩
      have e := (List.map_inj_right (fun x y h => by cases h; rfl)).mp e
      subst e
      exact ⟨_, rfl, .either v t, p2, rfl, rfl, o2, sec_eitherR nt dt vn vd⟩
  refine q_when (et_test (ev_eqI (ev_var rfl) ev_int)) (fun _ => ?_) (fun _ => ?_)
  · obtain ⟨l0, ls', hls⟩ : ∃ l0 ls', ls = l0 :: ls' := by
      cases ls with
      | nil => exact absurd rfl hne
      | cons x xs => exact ⟨x, xs, rfl⟩
    have hl0 : isNm l0 = true := hnm l0 (by rw [hls]; exact List.mem_cons_self)
    have e0 : atI (stD ls) 0 = some (.str l0) := by rw [hls]; exact at0
    exact g_ret hR (ev_tup (ds := [.str "either", t.d true, (Tr.at true [l0]).d true]) (ea3 ev_str (ev_var rfl) (ev_tup (ds := [.str "any", .lst (stD [l0])]) (ea2 ev_str (evn_lst (ds := [.str l0]) (ea1 (ev_ixV (ev_var rfl) ev_int .vl e0)) (Nat.le_of_ble_eq_true rfl)).lst) (Nat.le_of_ble_eq_true rfl))) (Nat.le_of_ble_eq_true rfl)) ⟨.either t (.at true [l0]), p1, rfl, rfl, o1.up (by omega), sec_eitherL nt dt ⟨Nat.le_of_ble_eq_true rfl, fun _ => List.cons_ne_nil _ _, fun m hm => by rw [List.mem_singleton.mp hm]; exact hl0⟩ (Nat.zero_le _)⟩
  have fin : ∀ (d1 : D) (k1 : Cells), (∃ (t : Tr) (p' : Pl), (Out.ret d1) = .ret (Tr.d true t) ∧ k1 = [(a, Nd.lst (Pl.ds p'))] ∧ p'.Ok (n + 1 + ((8 * 2 ^ 2 : Nat) : Int) - 1) ∧ t.dep ≤ 2 ∧ niceT t ∧ ∀ x ∈ t.nms, x ∈ ls) → ∃ (u : Tr) (p' : Pl), Out.ret d1 = .ret (Tr.d true u) ∧ k1 ++ [] = [(a, Nd.lst (Pl.ds p'))] ∧ p'.Ok (n + 40) ∧ SecT t u := fun d1 k1 ⟨v, p2, e1, e2, o2, vd, vn, _⟩ => ⟨v, p2, e1, by rw [List.append_nil]; exact e2, o2.up (by show n + 1 + 32 - 1 ≤ _; omega), sec_two nt dt vn vd⟩
  have kd : EvD K (tOp (rIx K) (tVar 2) (tC (.int 0))) [some (.val (.adr a)), some (.val (.lst (stD ls))), some (.val (t.d true)), some (.val (.int kind))] [(a, .lst (Pl.ds p1))] (.val (.str (match t with | .at k _ => kdS k | .join _ _ => "join" | .either _ _ => "either" | .rep _ => "repeat" | .opt _ => "option"))) [(a, .lst (Pl.ds p1))] := by
    cases t with
    | _ => exact ev_ixV (ev_var rfl) ev_int .vt at0
  rcases rep_d (t := t) with ⟨x, rfl⟩ | hno
  · refine q_when (et_and (et_test (ev_eqI (ev_var rfl) ev_int)) fun _ => et_test (ev_eqS kd ev_str)) (fun _ => ?_) (fun _ => ?_)
    · exact g_ret hR (ev_tup (ds := [.str "repeat", .tup [.str "repeat", x.d true]]) (ea2 ev_str (ev_tup (ds := [.str "repeat", x.d true]) (ea2 ev_str (ev_ixV (ev_var rfl) ev_int .vt (atI_nat (j := 1) rfl))) (Nat.le_of_ble_eq_true rfl))) (Nat.le_of_ble_eq_true rfl)) ⟨.rep (.rep x), p1, rfl, rfl, o1.up (by omega), sec_rep nt dt rfl⟩
    · exact g_retS [] hR (ea3 (ev_var rfl) (ev_var rfl) (ev_int (i := 2))) ⟨_, _, _, rfl, a, p1, n + 1, ls, 2, rfl, rfl, rfl, rfl, o1, by omega, by show n + 1 + 32 ≤ 900000; omega, by decide, hne, hl, hnm, rfl⟩ (fun o k ⟨t, p', h, _⟩ => ⟨_, h⟩) fin
  · refine q_when (b := false) ((et_and (et_test (ev_eqI (ev_var rfl) ev_int)) fun _ => et_test (ev_eqS kd ev_str)).to ?_) (fun z => by cases z) (fun _ => ?_)
    · rw [Bool.and_eq_false_iff]
      refine .inr ?_
      cases t with
      | rep x => exact absurd rfl (hno x)
      | «at» k ns => cases k with
        | true => exact show ((("any" : Str)) == "repeat") = false by decide
        | false => exact show ((("none" : Str)) == "repeat") = false by decide
      | join x y => exact show ((("join" : Str)) == "repeat") = false by decide
      | either x y => exact show ((("either" : Str)) == "repeat") = false by decide
      | opt x => exact show ((("option" : Str)) == "repeat") = false by decide
    · exact g_retS [] hR (ea3 (ev_var rfl) (ev_var rfl) (ev_int (i := 2))) ⟨_, _, _, rfl, a, p1, n + 1, ls, 2, rfl, rfl, rfl, rfl, o1, by omega, by show n + 1 + 32 ≤ 900000; omega, by decide, hne, hl, hnm, rfl⟩ (fun o k ⟨t, p', h, _⟩ => ⟨_, h⟩) fin
end
def wdB (t : Tr) (ws : List Str) : Bool := decide (ws.length ∈ endsL ws t 0)
theorem wdB_iff {t : Tr} {ws : List Str} : wdB t ws = true ↔ Lg t ws := by
  unfold wdB
  rw [decide_eq_true_eq]
  exact (endsL_iff ws t 0 ws.length (Nat.zero_le _)).trans ends_all
def onlyW (t u : Tr) (rs : List (List Str)) : List (List Str) := rs.filter fun r => wdB t r && !wdB u r
theorem only_mem {t u : Tr} {rs : List (List Str)} {r : List Str} : r ∈ onlyW t u rs ↔ r ∈ rs ∧ Lg t r ∧ ¬ Lg u r := by
  unfold onlyW
  rw [List.mem_filter, Bool.and_eq_true, wdB_iff, Bool.not_eq_true', Bool.eq_false_iff, ne_eq, wdB_iff]
def ct_law_only (K : PySem.W.Frag) : Ct := Ct3 fun a b c ka out => ∃ (t u : Tr) (rs : List (List Str)), a = .val (t.d true) ∧ b = .val (u.d true) ∧ c = .val (.lst (rowD rs)) ∧ t.dep < 8 ∧ u.dep < 8 ∧ EbOk 256 t ∧ EbOk 256 u ∧ rs.length ≤ 1000 ∧ (∀ r ∈ rs, r.length ≤ 256) ∧ ka = [] ∧ out = Rt (.lst (rowD (onlyW t u rs))) []
section
variable {P : Program} {w : World} {K : PySem.W.Frag} {mg : Str → Option Value} {base : Heap}
theorem ok_law_only (T : Tx K mg) (F_law_is_word : Fn P w K mg base 24 (He.ga K "_law_is_word") ["_law_tree_here", "_law_lanes"] (ct_law_is_word K)) : Fn P w K mg base 26 (He.ga K "_law_only") ["_law_one", "_law_two", "_law_words"] (ct_law_only K) := by
  obtain ⟨fd, F⟩ := T.d_law_only
  refine fn_ok F sc_law_only (fun _ _ _ _ _ _ us hl => match us, hl with | [_, _, _], _ => rfl) ct3_len (fun cdv A outer s H E hr => ⟨_, (pss_one (ps_ret (pe_lc (te := (tVar 3)) (tt := (tAnd (tB (tCall (spC K (ct_law_is_word K)) [] (fun _ _ _ => False) (tCons (tVar 0) (tCons (tVar 3) tNil)))) (tNot (tB (tCall (spC K (ct_law_is_word K)) [] (fun _ _ _ => False) (tCons (tVar 1) (tCons (tVar 3) tNil))))))) (own := [("_law_lanes", 3)]) rfl sc_law_only.nd (pi_seq (pv 2)) (blk_ok ["_law_one", "_law_two", "_law_words", "_law_lanes"] (defScope s_law_only) rfl rfl (by decide +kernel)) (fun _ _ _ _ _ => (pg_name (i := 3) sc_law_only.nd rfl (by first | exact Or.inl rfl | exact Or.inr rfl))) (fun _ _ _ _ _ => (pts_one (PW.pt (pw_and (pt_val (pe_call (F_law_is_word.up (by decide)).ok hr rfl T.g_law_is_word.1 T.g_law_is_word.2 (F_law_is_word.up (by decide)).bn .nil passes_no (pa_cons (pv 0) (pa_cons (pv 3) pa_nil)))) (pw_and1 (pt_not (pt_val (pe_call (F_law_is_word.up (by decide)).ok hr rfl T.g_law_is_word.1 T.g_law_is_word.2 (F_law_is_word.up (by decide)).bn .nil passes_no (pa_cons (pv 1) (pa_cons (pv 3) pa_nil)))))))))) (fun _ _ _ _ _ => (pv 3))))), fun ws ka out B F0 Q hC hR hX => ?_⟩)
  obtain ⟨a, b, c, rfl, t, u, rs, rfl, rfl, rfl, dt, du, et, eu, hl, hr, rfl, rfl⟩ := hC
  exact g_ret hR (evn_filt (xs := rs) (g := fun r => W.val (.lst (stD r))) (f := fun r => D.lst (stD r)) (p := fun r => wdB t r && !wdB u r) (C := Stay (.val (.lst (rowD rs))) (rowD rs)) (EvI.ws (ei_seq (ds := rowD rs) (ev_var rfl) .vl) (by unfold rowD; rw [List.map_map]; rfl)) (by decide) (by omega) ⟨trivial, fun _ => trivial⟩ (fun r hi => et_and (et_B (ev_callP (ea2 (ev_var rfl) (ev_var rfl)) ⟨_, _, rfl, t, r, rfl, rfl, dt, et.mono (hr r hi), Nat.le_trans (hr r hi) (by decide), rfl, rfl⟩)) fun _ => et_not (et_B (ev_callP (ea2 (ev_var rfl) (ev_var rfl)) ⟨_, _, rfl, u, r, rfl, rfl, du, eu.mono (hr r hi), Nat.le_trans (hr r hi) (by decide), rfl, rfl⟩))) (fun r hi _ => ev_var rfl)).lst ⟨rfl, rfl⟩
end
theorem lp_nice {t u : Tr} (nt : niceT t) (nu : niceT u) (dt : t.dep ≤ 3) (du : u.dep ≤ 3) (a1 : t.ats ≤ 8) (a2 : u.ats ≤ 8) (pr : PrOk t u 256) : LpOk t u 256 := by
  have s1 := nice_sm nt dt
  have s2 := nice_sm nu du
  have nm : ∀ p ∈ (mcT t 0).at_ ++ (mcT u 0).at_, p.2.length ≤ 3 := fun p hp => by
    rcases List.mem_append.mp hp with hp | hp
    · exact nice_at nt p hp
    · exact nice_at nu p hp
  refine ⟨s1.fits 0, s2.fits 0, fun p hp => Nat.le_trans (nm p hp) (by decide), by rw [mc_at_len, mc_at_len]; omega, pr, ?_⟩
  have := flat_le nm
  rw [List.length_append, mc_at_len, mc_at_len] at this
  have h3 : (((mcT t 0).at_ ++ (mcT u 0).at_).flatMap fun p => p.2).length * (256 + 1) ≤ 48 * (256 + 1) := Nat.mul_le_mul_right _ (by omega)
  omega
theorem lp_sec {t u : Tr} (h : SecT t u) : LpOk t u 256 := lp_nice h.nt h.nu h.dt h.du h.at1 h.at2 h.pr
theorem wi_sec {K : PySem.W.Frag} {t u : Tr} (h : SecT t u) : WiR K (.val (PaD K (t.d false))) t := .inl ⟨rfl, by have := h.dt; omega, nice_sm h.nt h.dt, by have := h.at1; omega⟩
theorem pl_rowD (rs : List (List Str)) : (rowD rs).all (pl 60) = true := List.all_eq_true.mpr fun d hd => by
  obtain ⟨r, _, rfl⟩ := List.mem_map.mp hd
  exact pl_stD r 59
theorem rowD_nil (rs : List (List Str)) : eqD (.lst (rowD rs)) (.lst []) = rs.isEmpty := by
  cases rs with
  | nil => rfl
  | cons r rs => rfl
def ct_law_right (K : PySem.W.Frag) : Ct := Ct4 fun a b c e ka out => ∃ (t u : Tr) (rs ls : List (List Str)), a = .val (t.d true) ∧ b = .val (u.d true) ∧ c = .val (.lst (rowD rs)) ∧ e = .val (.lst (rowD ls)) ∧ SecT t u ∧ rs.length ≤ 1000 ∧ (∀ r ∈ rs, r.length ≤ 256) ∧ ls.length ≤ 1000 ∧ (∀ r ∈ ls, r.length ≤ 256) ∧ ka = [] ∧ out = Rt (.bl true) []
section
variable {P : Program} {w : World} {K : PySem.W.Frag} {mg : Str → Option Value} {base : Heap}
theorem ok_law_right (T : Tx K mg) (F_within : Fn P w K mg base 28 (He.ga K "within") ["one", "two"] (ct_within K)) (F_parting : Fn P w K mg base 28 (He.ga K "parting") ["one", "two"] (ct_parting K)) (F_law_pattern : Fn P w K mg base 22 (He.ga K "_law_pattern") ["_law_tree_here"] (ct_law_pattern 5 K)) (F_law_is_word : Fn P w K mg base 24 (He.ga K "_law_is_word") ["_law_tree_here", "_law_lanes"] (ct_law_is_word K)) (F_law_only : Fn P w K mg base 26 (He.ga K "_law_only") ["_law_one", "_law_two", "_law_words"] (ct_law_only K)) : Fn P w K mg base 30 (He.ga K "_law_right") ["_law_one", "_law_two", "_law_words", "_law_longer"] (ct_law_right K) := by
  obtain ⟨fd, F⟩ := T.d_law_right
  refine fn_ok F sc_law_right (fun _ _ _ _ _ _ us hl => match us, hl with | [_, _, _, _], _ => rfl) ct4_len (fun cdv A outer s H E hr => ⟨_, (pss_cons (ps_set (i := 4) sc_law_right.nd rfl (by first | exact Or.inl rfl | exact Or.inr rfl) (pe_call (F_law_pattern.up (by decide)).ok hr rfl T.g_law_pattern.1 T.g_law_pattern.2 (F_law_pattern.up (by decide)).bn .nil (pass_own rfl rfl rfl rfl) (pa_cons (pv 0) pa_nil)))
      (pss_cons (ps_set (i := 5) sc_law_right.nd rfl (by first | exact Or.inl rfl | exact Or.inr rfl) (pe_call (F_law_pattern.up (by decide)).ok hr rfl T.g_law_pattern.1 T.g_law_pattern.2 (F_law_pattern.up (by decide)).bn .nil (pass_own rfl rfl rfl rfl) (pa_cons (pv 1) pa_nil)))
      (pss_cons (ps_set (i := 6) sc_law_right.nd rfl (by first | exact Or.inl rfl | exact Or.inr rfl) (pe_call (F_law_only.up (by decide)).ok hr rfl T.g_law_only.1 T.g_law_only.2 (F_law_only.up (by decide)).bn .nil (pass_own rfl rfl rfl rfl) (pa_cons (pv 0) (pa_cons (pv 1) (pa_cons (pv 2) pa_nil)))))
      (pss_cons (ps_set (i := 7) sc_law_right.nd rfl (by first | exact Or.inl rfl | exact Or.inr rfl) (pe_call (F_law_only.up (by decide)).ok hr rfl T.g_law_only.1 T.g_law_only.2 (F_law_only.up (by decide)).bn .nil (pass_own rfl rfl rfl rfl) (pa_cons (pv 1) (pa_cons (pv 0) (pa_cons (pv 2) pa_nil)))))
      (pss_cons (ps_if (PW.pt (pw_or (PW.pt (pw_and (pt_cmpR (op_neP (by have := (hr).units; exact this)) (pv 6) (pe_lst pa_nil) (nomark _)) (pw_and1 (pt_val (pe_call (F_within.up (by decide)).ok hr rfl T.g_within.1 T.g_within.2 (F_within.up (by decide)).bn .nil (pass_own rfl rfl rfl rfl) (pa_cons (pv 4) (pa_cons (pv 5) pa_nil))))))) (pw_or1 (PW.pt (pw_and (pt_cmpR (op_neP (by have := (hr).units; exact this)) (pv 7) (pe_lst pa_nil) (nomark _)) (pw_and1 (pt_val (pe_call (F_within.up (by decide)).ok hr rfl T.g_within.1 T.g_within.2 (F_within.up (by decide)).bn .nil (pass_own rfl rfl rfl rfl) (pa_cons (pv 5) (pa_cons (pv 4) pa_nil))))))))))
      (pss_one (ps_ret pe_bl))
      pss_nil)
      (pss_cons (ps_if (PW.pt (pw_and (pt_val (pe_call (F_within.up (by decide)).ok hr rfl T.g_within.1 T.g_within.2 (F_within.up (by decide)).bn .nil (pass_own rfl rfl rfl rfl) (pa_cons (pv 4) (pa_cons (pv 5) pa_nil)))) (pw_and1 (pt_cmpR (op_neP (by have := (hr).units; exact this)) (pe_call (F_law_only.up (by decide)).ok hr rfl T.g_law_only.1 T.g_law_only.2 (F_law_only.up (by decide)).bn .nil (pass_own rfl rfl rfl rfl) (pa_cons (pv 0) (pa_cons (pv 1) (pa_cons (pv 3) pa_nil)))) (pe_lst pa_nil) (nomark _)))))
      (pss_one (ps_ret pe_bl))
      pss_nil)
      (pss_cons (ps_set (i := 8) sc_law_right.nd rfl (by first | exact Or.inl rfl | exact Or.inr rfl) (pe_call (F_parting.up (by decide)).ok hr rfl T.g_parting.1 T.g_parting.2 (F_parting.up (by decide)).bn .nil (pass_own rfl rfl rfl rfl) (pa_cons (pv 4) (pa_cons (pv 5) pa_nil))))
      (pss_cons (ps_if (pt_cmpR (op_neP (by have := (hr).units; exact this)) (pe_cmpR op_isN1 (pv 8) pe_non (nomark _)) (pe_and (pe_call (F_within.up (by decide)).ok hr rfl T.g_within.1 T.g_within.2 (F_within.up (by decide)).bn .nil (pass_own rfl rfl rfl rfl) (pa_cons (pv 4) (pa_cons (pv 5) pa_nil))) (pe_one (pe_call (F_within.up (by decide)).ok hr rfl T.g_within.1 T.g_within.2 (F_within.up (by decide)).bn .nil (pass_own rfl rfl rfl rfl) (pa_cons (pv 5) (pa_cons (pv 4) pa_nil))))) (nomark _))
      (pss_one (ps_ret pe_bl))
      pss_nil)
      (pss_cons (ps_if (pt_cmpR op_isN1 (pv 8) pe_non (nomark _))
      (pss_one (ps_ret (pe_cmpR (op_eqP (by have := (hr).units; exact this)) (pe_op op_addU (pv 6) (pv 7)) (pe_lst pa_nil) (nomark _))))
      pss_nil)
      (pss_cons (ps_if (PW.pt (pw_or (pt_not (pt_val (pe_callB call_isi rfl T.n_isinstance (by decide +kernel) (pa_cons (pv 8) (pa_cons (pe_bltn (v := .ty "tuple") rfl T.n_tuple (by decide +kernel) rfl) pa_nil))))) (pw_or1 (pt_cmpR (op_eqP (by have := (hr).units; exact this)) (pe_call (F_law_is_word.up (by decide)).ok hr rfl T.g_law_is_word.1 T.g_law_is_word.2 (F_law_is_word.up (by decide)).bn .nil (pass_own rfl rfl rfl rfl) (pa_cons (pv 0) (pa_cons (pe_callTy call_lstU rfl T.n_list (by decide +kernel) (pa_cons (pv 8) pa_nil)) pa_nil))) (pe_call (F_law_is_word.up (by decide)).ok hr rfl T.g_law_is_word.1 T.g_law_is_word.2 (F_law_is_word.up (by decide)).bn .nil (pass_own rfl rfl rfl rfl) (pa_cons (pv 1) (pa_cons (pe_callTy call_lstU rfl T.n_list (by decide +kernel) (pa_cons (pv 8) pa_nil)) pa_nil))) (nomark _)))))
      (pss_one (ps_ret pe_bl))
      pss_nil)
      (pss_one (ps_ret (pe_cmpR (op_eqP (by have := (hr).units; exact this)) (pe_lc (te := (tVar 9)) (tt := (tTest (tOp rLtI (tCB (rLenU K) (tCons (tVar 9) tNil)) (tCB (rLenU K) (tCons (tVar 8) tNil))))) (own := [("_law_lanes", 9)]) rfl sc_law_right.nd (pi_seq (pe_op op_addU (pv 6) (pv 7))) (blk_ok ["_law_one", "_law_two", "_law_words", "_law_longer", "_law_first", "_law_second_here", "_law_here", "_law_there", "_law_found", "_law_lanes"] (defScope s_law_right) rfl rfl (by decide +kernel)) (fun _ _ _ _ _ => (pg_name (i := 9) sc_law_right.nd rfl (by first | exact Or.inl rfl | exact Or.inr rfl))) (fun _ _ _ _ _ => (pts_one (pt_cmpR op_lt (pe_callB call_lenU rfl T.n_len (by decide +kernel) (pa_cons (pv 9) pa_nil)) (pe_callB call_lenU rfl T.n_len (by decide +kernel) (pa_cons (pv 8) pa_nil)) (nomark _)))) (fun _ _ _ _ _ => (pv 9))) (pe_lst pa_nil) (nomark _)))))))))))))), fun ws ka out B F0 Q hC hR hX => ?_⟩)
  obtain ⟨a, b, c, e, rfl, t, u, rs, ls, rfl, rfl, rfl, rfl, sec, hrl, hr, hll, hls, rfl, rfl⟩ := hC
  have dt := sec.dt
  have du := sec.du
  have lp := lp_sec sec
  have lp2 := lp_sec sec.swap
  refine q_asg (ev_callP (ea1 (ev_var rfl)) ⟨_, rfl, t, rfl, by omega, sec.nt, rfl, rfl⟩) ?_
  refine q_asg (ev_callP (ea1 (ev_var rfl)) ⟨_, rfl, u, rfl, by omega, sec.nu, rfl, rfl⟩) ?_
  refine q_asg (ev_callP (ea3 (ev_var rfl) (ev_var rfl) (ev_var rfl)) ⟨_, _, _, rfl, t, u, rs, rfl, rfl, rfl, by omega, by omega, sec.e1, sec.e2, hrl, hr, rfl, rfl⟩) ?_
  refine q_asg (ev_callP (ea3 (ev_var rfl) (ev_var rfl) (ev_var rfl)) ⟨_, _, _, rfl, u, t, rs, rfl, rfl, rfl, by omega, by omega, sec.e2, sec.e1, hrl, hr, rfl, rfl⟩) ?_
  have wi1 : ∀ {ro : Ro} {E' : XK}, ro[4]? = some (some (.val (PaD K (t.d false)))) → ro[5]? = some (some (.val (PaD K (u.d false)))) → EvD K (tCall (spC K (ct_within K)) [] E' (tCons (tVar 4) (tCons (tVar 5) tNil))) ro [] (.val (.bl (wiB t u))) [] := fun h4 h5 => ev_callP (ea2 (ev_var h4) (ev_var h5)) ⟨_, _, rfl, t, u, _, wi_sec sec, wi_sec sec.swap, lp, rfl, rfl⟩
  have wi2 : ∀ {ro : Ro} {E' : XK}, ro[4]? = some (some (.val (PaD K (t.d false)))) → ro[5]? = some (some (.val (PaD K (u.d false)))) → EvD K (tCall (spC K (ct_within K)) [] E' (tCons (tVar 5) (tCons (tVar 4) tNil))) ro [] (.val (.bl (wiB u t))) [] := fun h4 h5 => ev_callP (ea2 (ev_var h5) (ev_var h4)) ⟨_, _, rfl, u, t, _, wi_sec sec.swap, wi_sec sec, lp2, rfl, rfl⟩
  have none1 : wiB t u = true → ∀ rs, onlyW t u rs = [] := fun h rs => List.eq_nil_iff_forall_not_mem.mpr fun r hr => (only_mem.mp hr).2.2 (wi_iff.mp h r (only_mem.mp hr).2.1)
  have none2 : wiB u t = true → ∀ rs, onlyW u t rs = [] := fun h rs => List.eq_nil_iff_forall_not_mem.mpr fun r hr => (only_mem.mp hr).2.2 (wi_iff.mp h r (only_mem.mp hr).2.1)
  have nonE : ∀ {te : TE} {ro : Ro} {xs : List (List Str)}, EvD K te ro [] (.val (.lst (rowD xs))) [] → EvD K (tOp (rEqP K true) te (tLst tNil)) ro [] (.val (.bl (!xs.isEmpty))) [] := fun {te ro xs} h => (ev_ne (d := .lst (rowD xs)) (e := .lst []) h (evn_lst (ds := []) ea_nil (by decide)).lst .v .v (pl_rowD xs) rfl).to (by rw [rowD_nil])
  refine q_when (b := false) ((et_or (et_and (et_test (nonE (ev_var rfl))) fun _ => et_B (wi1 rfl rfl)) fun _ => et_and (et_test (nonE (ev_var rfl))) fun _ => et_B (wi2 rfl rfl)).to ?f1) (fun z => by cases z) (fun _ => ?_)
  case f1 =>
    have h1 : (!(onlyW t u rs).isEmpty && wiB t u) = false := by
      cases hw : wiB t u with
      | false => exact Bool.and_false _
      | true => rw [none1 hw rs]; rfl
    have h2 : (!(onlyW u t rs).isEmpty && wiB u t) = false := by
      cases hw : wiB u t with
      | false => exact Bool.and_false _
      | true => rw [none2 hw rs]; rfl
    rw [h1, h2]
    rfl
  refine q_when (b := false) ((et_and (et_B (wi1 rfl rfl)) fun _ => et_test (nonE (ev_callP (d := .lst (rowD (onlyW t u ls))) (ea3 (ev_var rfl) (ev_var rfl) (ev_var rfl)) ⟨_, _, _, rfl, t, u, ls, rfl, rfl, rfl, by omega, by omega, sec.e1, sec.e2, hll, hls, rfl, rfl⟩))).to ?f2) (fun z => by cases z) (fun _ => ?_)
  case f2 =>
    cases hw : wiB t u with
    | false => rfl
    | true => rw [none1 hw ls]; rfl
  refine q_call [] (k1 := []) (ea2 (ev_var rfl) (ev_var rfl)) ⟨_, _, rfl, t, u, _, wi_sec sec, wi_sec sec.swap, lp, rfl, rfl⟩ (fun o k ⟨_, r, e, _⟩ => ⟨_, e⟩) ?_
  rintro _ _ ⟨rfl, r, e, hp, hpn⟩
  cases e
  have both : isNonD (rwD r) = (wiB t u && wiB u t) := by
    cases r with
    | none =>
      have h1 : wiB t u = true := wi_iff.mpr fun w hw => Classical.byContradiction fun z => hp w (.inl ⟨hw, z⟩)
      have h2 : wiB u t = true := wi_iff.mpr fun w hw => Classical.byContradiction fun z => hp w (.inr ⟨rfl, hw, z⟩)
      rw [h1, h2]
      rfl
    | some w =>
      refine (Bool.eq_false_iff.mpr fun z => ?_).symm
      obtain ⟨z1, z2⟩ := Bool.and_eq_true_iff.mp z
      rcases hp.1 with ⟨h1, h2⟩ | ⟨_, h1, h2⟩
      · exact h2 (wi_iff.mp z1 w h1)
      · exact h2 (wi_iff.mp z2 w h1)
  refine q_when (b := false) ((et_test (ev_ne (d := .bl (isNonD (rwD r))) (e := .bl (wiB t u && wiB u t)) (ev_isN (d := rwD r) (ev_var rfl) (.inl rfl)) (ev_andV (wi1 rfl rfl) fun _ => wi2 rfl rfl) .v .v rfl rfl)).to (by rw [both]; cases (wiB t u && wiB u t) <;> rfl)) (fun z => by cases z) (fun _ => ?_)
  have many : (onlyW t u rs ++ onlyW u t rs).length ≤ 2000 := by
    have h1 := List.length_filter_le (fun r => wdB t r && !wdB u r) rs
    have h2 := List.length_filter_le (fun r => wdB u r && !wdB t r) rs
    rw [List.length_append]
    show (List.filter _ _).length + (List.filter _ _).length ≤ _
    omega
  have cat : ∀ {ro : Ro}, ro[6]? = some (some (.val (.lst (rowD (onlyW t u rs))))) → ro[7]? = some (some (.val (.lst (rowD (onlyW u t rs))))) → EvD K (tOp (rAddU K) (tVar 6) (tVar 7)) ro [] (.val (.lst (rowD (onlyW t u rs ++ onlyW u t rs)))) [] := fun h6 h7 => (ev_catL (ev_var h6) (ev_var h7) (by rw [rowD_len, rowD_len]; rw [List.length_append] at many; omega)).to (by rw [rowD_app])
  cases r with
  | none =>
    rw [show isNonD (rwD none) = true from rfl] at both
    obtain ⟨z1, z2⟩ := Bool.and_eq_true_iff.mp both.symm
    refine q_when (b := true) (et_test (ev_isN (d := .non) (ev_var rfl) (.inl rfl))) (fun _ => ?_) (fun z => by cases z)
    exact g_ret hR ((ev_eq (d := .lst (rowD (onlyW t u rs ++ onlyW u t rs))) (e := .lst []) (cat rfl rfl) (evn_lst (ds := []) ea_nil (by decide)).lst .v .v (pl_rowD _) rfl).to (by rw [none1 z1, none2 z2]; rfl)) ⟨rfl, rfl⟩
  | some w =>
    obtain ⟨hwl, _⟩ := hpn w rfl
    refine q_when (b := false) (et_test (ev_isN (d := .tup (stD w)) (ev_var rfl) (.inl rfl))) (fun z => by cases z) (fun _ => ?_)
    have lst : ∀ {ro : Ro}, ro[8]? = some (some (.val (.tup (stD w)))) → EvD K (tCB (rLstU K) (tCons (tVar 8) tNil)) ro [] (.val (.lst (stD w))) [] := fun h => (evn_cb (ea1 (ev_var h)) (rcn_lst .vt (sqf_stD _ _))).lst
    have wd1 : ∀ {ro : Ro} {E' : XK}, ro[0]? = some (some (.val (t.d true))) → ro[8]? = some (some (.val (.tup (stD w)))) → EvD K (tCall (spC K (ct_law_is_word K)) [] E' (tCons (tVar 0) (tCons (tCB (rLstU K) (tCons (tVar 8) tNil)) tNil))) ro [] (.val (.bl (wdB t w))) [] := fun h1 h8 => ev_callP (ea2 (ev_var h1) (lst h8)) ⟨_, _, rfl, t, w, rfl, rfl, by omega, sec.e1.mono hwl, by omega, rfl, rfl⟩
    have wd2 : ∀ {ro : Ro} {E' : XK}, ro[1]? = some (some (.val (u.d true))) → ro[8]? = some (some (.val (.tup (stD w)))) → EvD K (tCall (spC K (ct_law_is_word K)) [] E' (tCons (tVar 1) (tCons (tCB (rLstU K) (tCons (tVar 8) tNil)) tNil))) ro [] (.val (.bl (wdB u w))) [] := fun h1 h8 => ev_callP (ea2 (ev_var h1) (lst h8)) ⟨_, _, rfl, u, w, rfl, rfl, by omega, sec.e2.mono hwl, by omega, rfl, rfl⟩
    have dif : (wdB t w == wdB u w) = false := by
      rcases hp.1 with ⟨h1, h2⟩ | ⟨_, h1, h2⟩
      · rw [wdB_iff.mpr h1, Bool.eq_false_iff.mpr fun z => h2 (wdB_iff.mp z)]
        rfl
      · rw [wdB_iff.mpr h1, Bool.eq_false_iff.mpr fun z => h2 (wdB_iff.mp z)]
        rfl
    refine q_when (b := false) (et_or0 ((et_not (et_B (ev_isi (ev_var rfl) (tw_of (T := "tuple") rfl) T.kt_tuple_tuple))).to rfl) ((et_test (ev_eqB (wd1 rfl rfl) (wd2 rfl rfl))).to dif)) (fun z => by cases z) (fun _ => ?_)
    have none3 : (onlyW t u rs ++ onlyW u t rs).filter (fun r => decide ((r.length : Int) < (w.length : Int))) = [] := List.eq_nil_iff_forall_not_mem.mpr fun r hr => by
      obtain ⟨h1, h2⟩ := List.mem_filter.mp hr
      rw [decide_eq_true_eq] at h2
      have := hp.2 r (by
        rcases List.mem_append.mp h1 with h1 | h1
        · exact .inl (only_mem.mp h1).2
        · exact .inr ⟨rfl, (only_mem.mp h1).2⟩)
      omega
    exact g_ret hR ((ev_eq (d := .lst (rowD ((onlyW t u rs ++ onlyW u t rs).filter fun r => decide ((r.length : Int) < (w.length : Int))))) (e := .lst []) (evn_filt (xs := onlyW t u rs ++ onlyW u t rs) (g := fun r => W.val (.lst (stD r))) (f := fun r => D.lst (stD r)) (p := fun r => decide ((r.length : Int) < (w.length : Int))) (C := Stay (.val (.lst (rowD (onlyW t u rs ++ onlyW u t rs)))) (rowD (onlyW t u rs ++ onlyW u t rs))) (EvI.ws (ei_seq (ds := rowD (onlyW t u rs ++ onlyW u t rs)) (cat rfl rfl) .vl) (by unfold rowD; rw [List.map_map]; rfl)) (by decide) (by omega) ⟨trivial, fun _ => trivial⟩ (fun r hi => (et_test (ev_lt (ev_len (ev_var rfl) .vl) (ev_len (ev_var rfl) .vt))).to (by rw [stD_len, stD_len])) (fun r hi _ => ev_var rfl)).lst (evn_lst (ds := []) ea_nil (by decide)).lst .v .v (pl_rowD _) rfl).to (by rw [none3]; rfl)) ⟨rfl, rfl⟩
end
theorem word_eq {t : Tr} {ws : List Str} (hn : ∀ x ∈ ws, isNm x = true) : ((stD ws).all isNmD && accM (mcT t 0) ((stD ws).map strOf)) = decide (ws.length ∈ endsL ws t 0) := by
  have h1 : (stD ws).all isNmD = true := List.all_eq_true.mpr (names_ok hn).2
  have h2 : (stD ws).map strOf = ws := by
    unfold stD
    rw [List.map_map]
    exact List.map_id'' (fun _ => rfl) ws
  rw [h1, h2, Bool.true_and]
  have h3 : ws.length ∈ endsL ws t 0 ↔ Lg t ws := (endsL_iff ws t 0 ws.length (Nat.zero_le _)).trans ends_all
  cases hb : accM (mcT t 0) ws with
  | true => exact (decide_eq_true (h3.mpr (acc_iff.mp hb))).symm
  | false =>
    refine (decide_eq_false fun z => ?_).symm
    have := acc_iff.mpr (h3.mp z)
    rw [hb] at this
    cases this
theorem word_in {t : Tr} {ws : List Str} : ws.length ∈ endsL ws t 0 ↔ Lg t ws := (endsL_iff ws t 0 ws.length (Nat.zero_le _)).trans ends_all
/-- a row asked as a tuple, and as a list -/
theorem ctB_row {t : Tr} {ws : List Str} (hn : ∀ x ∈ ws, isNm x = true) : (ctB t (.tup (stD ws)) = true ↔ Lg t ws) ∧ (ctB t (.lst (stD ws)) = true ↔ Lg t ws) := by
  have e : ((stD ws).all isNmD && accM (mcT t 0) ((stD ws).map strOf)) = true ↔ Lg t ws := by rw [word_eq hn, decide_eq_true_eq]; exact word_in
  exact ⟨e, e⟩
def lt1 : List Str := ["a", "b", "c", "d", "e", "f", "g", "h", "i", "j", "k", "l", "m"]
def lt2 : List Str := ["n", "o", "p", "q", "r"]
def lt3 : List Str := ["s", "t", "u", "v", "w", "x", "y", "z"]
def ltT : Tr := .either (.either (.at true lt1) (.at true lt2)) (.at true lt3)
def anT : Tr := .at false []
theorem lt_nm : ∀ x ∈ lt1 ++ lt2 ++ lt3, isNm x = true := by decide +kernel
theorem an_lg {w : List Str} : Lg anT w ↔ ∃ x, w = [x] := by
  constructor
  · rintro ⟨x, h, _⟩
    exact ⟨x, h⟩
  · rintro ⟨x, h⟩
    exact ⟨x, h, rfl⟩
theorem lt_an {w : List Str} (h : Lg ltT w) : Lg anT w := by
  rcases h with (⟨x, h, _⟩ | ⟨x, h, _⟩) | ⟨x, h, _⟩ <;> exact an_lg.mpr ⟨x, h⟩
theorem lt_no : ¬ Lg ltT ["a0"] := by
  have h : ("a0" : Str) ∉ lt1 ++ lt2 ++ lt3 := by decide +kernel
  intro z
  refine h ?_
  rcases z with (⟨x, e, hx⟩ | ⟨x, e, hx⟩) | ⟨x, e, hx⟩ <;> cases e
  · exact List.mem_append_left _ (List.mem_append_left _ (by simpa [atB] using hx))
  · exact List.mem_append_left _ (List.mem_append_right _ (by simpa [atB] using hx))
  · exact List.mem_append_right _ (by simpa [atB] using hx)
theorem lt_lp : LpOk anT ltT 16 := by
  have sm : ltT.sm := sm_of (n := 8) (t := ltT) ⟨⟨Nat.le_of_ble_eq_true rfl, Nat.le_of_ble_eq_true rfl⟩, Nat.le_of_ble_eq_true rfl⟩ (Nat.le_of_ble_eq_true rfl) (by decide) (Nat.le_of_ble_eq_true rfl)
  have sm2 : anT.sm := show 0 ≤ 1000 from Nat.zero_le _
  refine ⟨sm2.fits 0, sm.fits 0, fun p hp => ?_, Nat.le_of_ble_eq_true rfl, (PrOk.all anT ltT).up (Nat.le_of_ble_eq_true rfl), Nat.le_of_ble_eq_true rfl⟩
  have hp : p ∈ [((false, []) : Bool × List Str), (true, lt1), (true, lt2), (true, lt3)] := hp
  simp only [List.mem_cons, List.not_mem_nil, or_false] at hp
  rcases hp with rfl | rfl | rfl | rfl <;> exact Nat.le_of_ble_eq_true rfl
theorem lt_sm : ltT.sm := sm_of (n := 8) (t := ltT) ⟨⟨Nat.le_of_ble_eq_true rfl, Nat.le_of_ble_eq_true rfl⟩, Nat.le_of_ble_eq_true rfl⟩ (Nat.le_of_ble_eq_true rfl) (by decide) (Nat.le_of_ble_eq_true rfl)
/-- what parts any one name from the letters: one name, no letter -/
theorem lt_pa {c : Nat} {r : Option (List Str)} (h : PaR anT ltT false r) (hn : PaN anT ltT c r) : ∃ x, r = some [x] ∧ isNm x = true ∧ ¬ Lg ltT [x] := by
  cases r with
  | none => exact absurd (.inl ⟨an_lg.mpr ⟨"a0", rfl⟩, lt_no⟩) (h ["a0"])
  | some w =>
    rcases h.1 with ⟨h1, h2⟩ | ⟨_, h1, h2⟩
    · obtain ⟨x, rfl⟩ := an_lg.mp h1
      refine ⟨x, rfl, ?_, h2⟩
      rcases (hn _ rfl).2 x List.mem_cons_self with hx | ⟨k, hk, rfl⟩
      · exact lt_nm x (by
          have e : namM (mcT anT 0) ++ namM (mcT ltT 0) = lt1 ++ lt2 ++ lt3 := by decide +kernel
          rwa [e] at hx)
      · exact aNum_nm hk
    · exact absurd (lt_an h1) h2
def ct_law_far_parted (K : PySem.W.Frag) : Ct := Ct2 fun a b ka out => ∃ (x : Str) (m : Nat), a = .val (.str x) ∧ b = .val (.int ((m : Int) + 1)) ∧ isNm x = true ∧ m ≤ 2 ∧ ka = [] ∧ out = Rt (.bl true) []
section
variable {P : Program} {w : World} {K : PySem.W.Frag} {mg : Str → Option Value} {base : Heap}
theorem ok_law_far_parted (T : Tx K mg) (F_Pattern___contains : Fn P w K mg base 26 (He.ma K (He.ga K "Pattern") "__contains__") ["self", "lanes"] (ct_Pattern___contains K)) (F_Pattern___or : Fn P w K mg base 6 (He.ma K (He.ga K "Pattern") "__or__") ["self", "other"] (ct_Pattern___or K)) (F_Pattern___mul : Fn P w K mg base 8 (He.ma K (He.ga K "Pattern") "__mul__") ["self", "number"] (ct_Pattern___mul K)) (F_any_of : FnV P w K mg base 8 (He.ga K "any_of") (ct_any_of K)) (F_none_of : FnV P w K mg base 8 (He.ga K "none_of") (ct_none_of K)) (F_repeated : Fn P w K mg base 6 (He.ga K "repeated") ["pattern"] (ct_repeated K)) (F_optional : Fn P w K mg base 6 (He.ga K "optional") ["pattern"] (ct_optional K)) (F_within : Fn P w K mg base 28 (He.ga K "within") ["one", "two"] (ct_within K)) (F_parting : Fn P w K mg base 28 (He.ga K "parting") ["one", "two"] (ct_parting K)) : Fn P w K mg base 30 (He.ga K "_law_far_parted") ["_law_name", "_law_number"] (ct_law_far_parted K) := by
  obtain ⟨fd, F⟩ := T.d_law_far_parted
  refine fn_ok F sc_law_far_parted (fun _ _ _ _ _ _ us hl => match us, hl with | [_, _], _ => rfl) ct2_len (fun cdv A outer s H E hr => ⟨_, (pss_cons (ps_set (i := 2) sc_law_far_parted.nd rfl (by first | exact Or.inl rfl | exact Or.inr rfl) (pe_op (op_ow T.bo_Pattern_Mult (F_Pattern___mul.up (by decide)) hr (pass_own rfl rfl rfl rfl)) (pe_callS (F_any_of.up (by decide)) hr rfl T.g_any_of.1 T.g_any_of.2 (pass_own rfl rfl rfl rfl) (pa_cons (pv 0) pa_nil)) (pv 1)))
      (pss_cons (ps_par (i := 3) (j := 4) (by rfl) sc_law_far_parted.nd rfl rfl (by decide) rfl rfl (pa_cons (pe_call (F_repeated.up (by decide)).ok hr rfl T.g_repeated.1 T.g_repeated.2 (F_repeated.up (by decide)).bn .nil (pass_own rfl rfl rfl rfl) (pa_cons (pv 2) pa_nil)) (pa_cons (pe_call (F_optional.up (by decide)).ok hr rfl T.g_optional.1 T.g_optional.2 (F_optional.up (by decide)).bn .nil (pass_own rfl rfl rfl rfl) (pa_cons (pv 2) pa_nil)) pa_nil)) (by rfl))
      (pss_cons (ps_if (PW.pt (pw_or (pt_cmpR (op_neP (by have := (hr).units; exact this)) (pe_call (F_parting.up (by decide)).ok hr rfl T.g_parting.1 T.g_parting.2 (F_parting.up (by decide)).bn .nil (pass_own rfl rfl rfl rfl) (pa_cons (pv 3) (pa_cons (pv 4) pa_nil))) (pe_op op_mulV (pe_tup (pa_cons (pv 0) pa_nil)) (pe_op op_mulV pe_int (pv 1))) (nomark _)) (pw_or (pt_val (pe_call (F_within.up (by decide)).ok hr rfl T.g_within.1 T.g_within.2 (F_within.up (by decide)).bn .nil (pass_own rfl rfl rfl rfl) (pa_cons (pv 3) (pa_cons (pv 4) pa_nil)))) (pw_or1 (pt_not (pt_val (pe_call (F_within.up (by decide)).ok hr rfl T.g_within.1 T.g_within.2 (F_within.up (by decide)).bn .nil (pass_own rfl rfl rfl rfl) (pa_cons (pv 4) (pa_cons (pv 3) pa_nil)))))))))
      (pss_one (ps_ret pe_bl))
      pss_nil)
      (pss_cons (ps_set (i := 5) sc_law_far_parted.nd rfl (by first | exact Or.inl rfl | exact Or.inr rfl) (pe_op (op_owB T.bo_Pattern_BitOr (F_Pattern___or.up (by decide)) hr (pass_own rfl rfl rfl rfl)) (pe_callS (F_any_of.up (by decide)) hr rfl T.g_any_of.1 T.g_any_of.2 (pass_own rfl rfl rfl rfl) (pa_cons pe_str (pa_cons pe_str (pa_cons pe_str (pa_cons pe_str (pa_cons pe_str (pa_cons pe_str (pa_cons pe_str (pa_cons pe_str (pa_cons pe_str (pa_cons pe_str (pa_cons pe_str (pa_cons pe_str (pa_cons pe_str pa_nil)))))))))))))) (pe_callS (F_any_of.up (by decide)) hr rfl T.g_any_of.1 T.g_any_of.2 (pass_own rfl rfl rfl rfl) (pa_cons pe_str (pa_cons pe_str (pa_cons pe_str (pa_cons pe_str (pa_cons pe_str pa_nil))))))))
      (pss_cons (ps_set (i := 5) sc_law_far_parted.nd rfl (by first | exact Or.inl rfl | exact Or.inr rfl) (pe_op (op_owB T.bo_Pattern_BitOr (F_Pattern___or.up (by decide)) hr (pass_own rfl rfl rfl rfl)) (pv 5) (pe_callS (F_any_of.up (by decide)) hr rfl T.g_any_of.1 T.g_any_of.2 (pass_own rfl rfl rfl rfl) (pa_cons pe_str (pa_cons pe_str (pa_cons pe_str (pa_cons pe_str (pa_cons pe_str (pa_cons pe_str (pa_cons pe_str (pa_cons pe_str pa_nil)))))))))))
      (pss_cons (ps_set (i := 6) sc_law_far_parted.nd rfl (by first | exact Or.inl rfl | exact Or.inr rfl) (pe_call (F_parting.up (by decide)).ok hr rfl T.g_parting.1 T.g_parting.2 (F_parting.up (by decide)).bn .nil (pass_own rfl rfl rfl rfl) (pa_cons (pe_callS0 (F_none_of.up (by decide)) hr rfl T.g_none_of.1 T.g_none_of.2 (pass_own rfl rfl rfl rfl)) (pa_cons (pv 5) pa_nil))))
      (pss_one (ps_ret (pe_and (pe_cmpR (op_eqP (by have := (hr).units; exact this)) (pe_callB call_lenU rfl T.n_len (by decide +kernel) (pa_cons (pv 6) pa_nil)) pe_int (nomark _)) (pe_and (pe_cmpR (in_ow T.sm_Pattern_contains (F_Pattern___contains.up (by decide)) hr (pass_own rfl rfl rfl rfl)) (pv 6) (pe_callS0 (F_none_of.up (by decide)) hr rfl T.g_none_of.1 T.g_none_of.2 (pass_own rfl rfl rfl rfl)) (by with_unfolding_all rfl)) (pe_and (pe_cmpR (ni_ow T.sm_Pattern_contains (F_Pattern___contains.up (by decide)) hr (pass_own rfl rfl rfl rfl)) (pv 6) (pv 5) (by with_unfolding_all rfl)) (pe_one (pe_call (F_within.up (by decide)).ok hr rfl T.g_within.1 T.g_within.2 (F_within.up (by decide)).bn .nil (pass_own rfl rfl rfl rfl) (pa_cons (pv 5) (pa_cons (pe_callS0 (F_none_of.up (by decide)) hr rfl T.g_none_of.1 T.g_none_of.2 (pass_own rfl rfl rfl rfl)) pa_nil))))))))))))))), fun ws ka out B F0 Q hC hR hX => ?_⟩)
  obtain ⟨a, b, rfl, x, m, rfl, rfl, hx, hm, rfl, rfl⟩ := hC
  have nx : ∀ n ∈ [x], isNm n = true := fun n hn => by rw [List.mem_singleton.mp hn]; exact hx
  have n1 : niceT (powT (.at true [x]) m) := powT_nice (t := .at true [x]) ⟨Nat.le_of_ble_eq_true rfl, fun _ => List.cons_ne_nil _ _, nx⟩ m
  obtain ⟨a1, _⟩ := powT_ats (Tr.«at» true [x]) m
  have a1 : (powT (.at true [x]) m).ats = (m + 1) * 1 := a1
  have d1 := powT_dep (Tr.«at» true [x]) m
  have d1 : (powT (.at true [x]) m).dep ≤ 0 + m := d1
  have far := fun r => far_pa (x := x) (n := m) (r := r)
  have f1 : wiB (.rep (powT (.at true [x]) m)) (.opt (powT (.at true [x]) m)) = false := Bool.eq_false_iff.mpr fun z => by
    rcases far_two (x := x) (n := m) with h | h
    · exact h.2 (wi_iff.mp z _ h.1)
    · exact h.2.2 (far_opt h.2.1)
  have f2 : wiB (.opt (powT (.at true [x]) m)) (.rep (powT (.at true [x]) m)) = true := wi_iff.mpr fun w hw => far_opt hw
  refine q_asg (w := .val (PaD K ((powT (.at true [x]) m).d false))) (ev_op (ev_callP (ea1 (ev_var rfl)) ⟨stD [x], rfl, Nat.le_of_ble_eq_true rfl, _, rfl, [x], rfl, List.cons_ne_nil _ _, nx, rfl, rfl⟩) (ev_var rfl) (rv_ownT (k1 := []) [] .v (tyw_int T.bt_Pattern_Mult_int) ⟨_, _, rfl, .at true [x], .int ((m : Int) + 1), rfl, rfl, (fun z => by cases z), (fun i e => by cases e; omega), rfl, rfl⟩ fun o k z => by
      have e : pmOut K (.at true [x]) (.int ((m : Int) + 1)) = Rt (PaD K ((powT (.at true [x]) m).d false)) [] := (if_pos (by omega)).trans (by rw [show ((m : Int) + 1).toNat - 1 = m by omega])
      rw [e] at z
      exact z)) ?_
  generalize hS : powT (.at true [x]) m = sg at *
  have sR : SecT (.rep sg) (.opt sg) → True := fun _ => trivial
  have pr : PrOk (.rep sg) (.opt sg) 256 := (PrOk.all (.rep sg) (.opt sg)).up (Nat.le_trans (Nat.mul_le_mul (Nat.pow_le_pow_right (by decide) (show sg.ats ≤ 3 by omega)) (Nat.pow_le_pow_right (by decide) (show sg.ats ≤ 3 by omega))) (by decide))
  have dR : (Tr.rep sg).dep ≤ 3 := by show sg.dep + 1 ≤ 3; omega
  have dO : (Tr.opt sg).dep ≤ 3 := by show sg.dep + 1 ≤ 3; omega
  have aR : (Tr.rep sg).ats ≤ 8 := by show sg.ats ≤ 8; omega
  have aO : (Tr.opt sg).ats ≤ 8 := by show sg.ats ≤ 8; omega
  have lp1 := lp_nice (t := .rep sg) (u := .opt sg) n1 n1 dR dO aR aO pr
  have lp2 := lp_nice (t := .opt sg) (u := .rep sg) n1 n1 dO dR aO aR pr.swap
  have w1 : WiR K (.val (PaD K ((Tr.rep sg).d false))) (.rep sg) := .inl ⟨rfl, by omega, nice_sm (t := .rep sg) n1 dR, by omega⟩
  have w2 : WiR K (.val (PaD K ((Tr.opt sg).d false))) (.opt sg) := .inl ⟨rfl, by omega, nice_sm (t := .opt sg) n1 dO, by omega⟩
  refine q_par (x := .val (PaD K ((Tr.rep sg).d false))) (y := .val (PaD K ((Tr.opt sg).d false))) (ea2 (ev_callP (ea1 (ev_var rfl)) ⟨_, rfl, sg, rfl, rfl, rfl⟩) (ev_callP (ea1 (ev_var rfl)) ⟨_, rfl, sg, rfl, rfl, rfl⟩)) ?_
  have rep : (List.replicate (2 * ((m : Int) + 1)).toNat [D.str x]).flatten = stD (List.replicate (2 * (m + 1)) x) := by
    have e : (2 * ((m : Int) + 1)).toNat = 2 * (m + 1) := by omega
    rw [e]
    generalize 2 * (m + 1) = j
    induction j with
    | zero => rfl
    | succ j ih =>
      rw [List.replicate_succ, List.flatten_cons, ih, List.replicate_succ]
      rfl
  refine q_when (b := false) (k1 := []) (et_or0 (k1 := []) ((et_test (ev_ne (d := .tup (stD (List.replicate (2 * (m + 1)) x))) (e := .tup (stD (List.replicate (2 * (m + 1)) x))) (EvR.d (k1 := []) (evr_call (k1 := []) [] (ea2 (ev_var rfl) (ev_var rfl)) ⟨_, _, rfl, .rep sg, .opt sg, 256, w1, w2, lp1, rfl, rfl⟩ (fun o k ⟨_, r, e, _⟩ => ⟨_, e⟩)) (fun w k hk => ?pa)) ((ev_repT (ds := [.str x]) (ev_tup (ds := [.str x]) (ea1 (ev_var rfl)) (Nat.le_of_ble_eq_true rfl)) (ev_mulV ev_int (ev_var rfl) (.of_left (by decide))) (List.cons_ne_nil _ _) (by omega) (by omega) (Nat.le_of_ble_eq_true rfl)).to (by rw [rep])) .v .v (pl_stD _ 60) (pl_stD _ 60))).to (b := false) ?eq)
    (et_or0 ((et_B (ev_callP (ea2 (ev_var rfl) (ev_var rfl)) ⟨_, _, rfl, .rep sg, .opt sg, 256, w1, w2, lp1, rfl, rfl⟩)).to f1) ((et_not (et_B (ev_callP (ea2 (ev_var rfl) (ev_var rfl)) ⟨_, _, rfl, .opt sg, .rep sg, 256, w2, w1, lp2, rfl, rfl⟩))).to (b := false) (by rw [f2]; rfl)))) (fun z => by cases z) (fun _ => ?_)
  case pa =>
    obtain ⟨d, k2, ⟨rfl, r, e, hp, _⟩, rfl, rfl⟩ := hk
    cases e
    rw [far r hp]
    exact ⟨rfl, rfl⟩
  case eq => rw [show eqD (.tup (stD (List.replicate (2 * (m + 1)) x))) (.tup (stD (List.replicate (2 * (m + 1)) x))) = true from (eqL_stD _ _).trans (decide_eq_true rfl)]; rfl
  have s13 : ∀ {ro : Ro} {E' : XK}, EvD K (tCall (spC K (CtV (ct_any_of K))) [] E' (tCons (tC (.str "a")) (tCons (tC (.str "b")) (tCons (tC (.str "c")) (tCons (tC (.str "d")) (tCons (tC (.str "e")) (tCons (tC (.str "f")) (tCons (tC (.str "g")) (tCons (tC (.str "h")) (tCons (tC (.str "i")) (tCons (tC (.str "j")) (tCons (tC (.str "k")) (tCons (tC (.str "l")) (tCons (tC (.str "m")) tNil)))))))))))))) ro [] (.val (PaD K ((Tr.at true lt1).d false))) [] := ev_callP (ea_cons ev_str (ea_cons ev_str (ea_cons ev_str (ea_cons ev_str (ea_cons ev_str (ea_cons ev_str (ea_cons ev_str (ea_cons ev_str (ea_cons ev_str (ea_cons ev_str (ea_cons ev_str (ea_cons ev_str (ea1 ev_str))))))))))))) ⟨stD lt1, rfl, Nat.le_of_ble_eq_true rfl, _, rfl, lt1, rfl, List.cons_ne_nil _ _, fun x hx => lt_nm x (List.mem_append_left _ (List.mem_append_left _ hx)), rfl, rfl⟩
  refine q_asg (ev_opB (x := .val (PaD K ((Tr.at true lt1).d false))) (y := .val (PaD K ((Tr.at true lt2).d false))) s13 (ev_callP (ea_cons ev_str (ea_cons ev_str (ea_cons ev_str (ea_cons ev_str (ea1 ev_str))))) ⟨stD lt2, rfl, Nat.le_of_ble_eq_true rfl, _, rfl, lt2, rfl, List.cons_ne_nil _ _, fun x hx => lt_nm x (List.mem_append_left _ (List.mem_append_right _ hx)), rfl, rfl⟩) .v .v ⟨_, _, rfl, .at true lt1, .at true lt2, rfl, rfl, rfl, rfl⟩) ?_
  refine q_asg (w := .val (PaD K (ltT.d false))) (ev_opB (x := .val (PaD K ((Tr.either (.at true lt1) (.at true lt2)).d false))) (y := .val (PaD K ((Tr.at true lt3).d false))) (ev_var rfl) (ev_callP (ea_cons ev_str (ea_cons ev_str (ea_cons ev_str (ea_cons ev_str (ea_cons ev_str (ea_cons ev_str (ea_cons ev_str (ea1 ev_str)))))))) ⟨stD lt3, rfl, Nat.le_of_ble_eq_true rfl, _, rfl, lt3, rfl, List.cons_ne_nil _ _, fun x hx => lt_nm x (List.mem_append_right _ hx), rfl, rfl⟩) .v .v ⟨_, _, rfl, .either (.at true lt1) (.at true lt2), .at true lt3, rfl, rfl, rfl, rfl⟩) ?_
  have non : ∀ {ro : Ro} {E' : XK}, EvD K (tCall (spC K (CtV (ct_none_of K))) [] E' tNil) ro [] (.val (PaD K (anT.d false))) [] := ev_callP ea_nil ⟨[], rfl, Nat.zero_le _, _, rfl, [], rfl, by simp, rfl, rfl⟩
  have wl : WiR K (.val (PaD K (ltT.d false))) ltT := .inl ⟨rfl, Nat.le_of_ble_eq_true rfl, lt_sm, Nat.le_of_ble_eq_true rfl⟩
  have wa : WiR K (.val (PaD K (anT.d false))) anT := .inl ⟨rfl, Nat.le_of_ble_eq_true rfl, show 0 ≤ 1000 from Nat.zero_le _, Nat.le_of_ble_eq_true rfl⟩
  have lp3 := lt_lp
  have lp4 : LpOk ltT anT 16 := ⟨lp3.f2, lp3.f1, fun p hp => lp3.n p (List.mem_append.mpr (List.mem_append.mp hp).symm), Nat.le_of_ble_eq_true rfl, lp3.pr.swap, Nat.le_of_ble_eq_true rfl⟩
  refine q_call [] (k1 := []) (ea2 non (ev_var rfl)) ⟨_, _, rfl, anT, ltT, 16, wa, wl, lp3, rfl, rfl⟩ (fun o k ⟨_, r, e, _⟩ => ⟨_, e⟩) ?_
  rintro _ _ ⟨rfl, r, e, hp, hpn⟩
  cases e
  obtain ⟨y, rfl, hy, hno⟩ := lt_pa hp hpn
  have ny : ∀ n ∈ [y], isNm n = true := fun n hn => by rw [List.mem_singleton.mp hn]; exact hy
  have ok : anOk (.tup (stD [y])) := ⟨by rw [stD_len]; exact Nat.le_of_ble_eq_true rfl, (names_ok ny).1⟩
  have c1 : ctB anT (.tup (stD [y])) = true := (ctB_row ny).1.mpr (an_lg.mpr ⟨y, rfl⟩)
  have c2 : ctB ltT (.tup (stD [y])) = false := Bool.eq_false_iff.mpr fun z => hno ((ctB_row ny).1.mp z)
  have w3 : wiB ltT anT = true := wi_iff.mpr fun w hw => lt_an hw
  refine g_ret hR (ev_andV1 ((ev_eqI (ev_len (ds := stD [y]) (ev_var rfl) .vt) ev_int).to (w' := .val (.bl true)) rfl) (ev_andV1 ((ev_inO (c := ctB anT (.tup (stD [y]))) (ev_var rfl) non .v ⟨_, _, rfl, anT, _, rfl, rfl, Nat.le_of_ble_eq_true rfl, show 0 ≤ 1000 from Nat.zero_le _, ok, rfl, rfl⟩).to (by rw [c1])) (ev_andV1 ((ev_niO (c := ctB ltT (.tup (stD [y]))) (ev_var rfl) (ev_var rfl) .v ⟨_, _, rfl, ltT, _, rfl, rfl, Nat.le_of_ble_eq_true rfl, lt_sm, ok, rfl, rfl⟩).to (by rw [c2]; rfl)) ((ev_callP (d := .bl (wiB ltT anT)) (ea2 (ev_var rfl) non) ⟨_, _, rfl, ltT, anT, 16, wl, wa, lp4, rfl, rfl⟩).to (by rw [w3]))))) ⟨rfl, rfl⟩
end
def ct_law (K : PySem.W.Frag) : Ct := Ct1 fun a ka out => ∃ ns, Scr K a ns ∧ ka = [] ∧ out = Rt (.bl true) []
/-- the tree of a walk, as the law puts it together -/
theorem wd_d (x y : Str) (xs : List Str) : (wdT x (xs ++ [y])).d true = .tup [.str "join", (wdT x xs).d true, .tup [.str "any", .lst (stD [y])]] := by
  rw [wdT_snoc]
  rfl
theorem pa_self {t : Tr} {r : Option (List Str)} (h : PaR t t false r) : r = none := by
  cases r with
  | none => rfl
  | some w =>
    rcases h.1 with ⟨h1, h2⟩ | ⟨_, h1, h2⟩
    · exact absurd h1 h2
    · exact absurd h1 h2
theorem wdT_lg {x : Str} {xs : List Str} : ∀ {w : List Str}, Lg (wdT x xs) w ↔ w = x :: xs := by
  induction xs using list_snoc_ind with
  | nil =>
    intro w
    constructor
    · rintro ⟨y, rfl, h⟩
      have : y ∈ [x] := by simpa [atB] using h
      rw [List.mem_singleton.mp this]
    · rintro rfl
      exact ⟨x, rfl, by simp [atB]⟩
  | snoc ys y ih =>
    intro w
    rw [wdT_snoc]
    constructor
    · rintro ⟨u, v, rfl, hu, z, rfl, h⟩
      have : z ∈ [y] := by simpa [atB] using h
      rw [ih.mp hu, List.mem_singleton.mp this]
      rfl
    · rintro rfl
      exact ⟨x :: ys, [y], rfl, ih.mpr rfl, y, rfl, by simp [atB]⟩
section
variable {P : Program} {w : World} {K : PySem.W.Frag} {mg : Str → Option Value} {base : Heap}
theorem ok_law {fd : FuncData} (T : Tx K mg) (F_within : Fn P w K mg base 28 (He.ga K "within") ["one", "two"] (ct_within K)) (F_parting : Fn P w K mg base 28 (He.ga K "parting") ["one", "two"] (ct_parting K)) (F_law_cell : Fn P w K mg base 4 (He.ga K "_law_cell") ["_law_script", "_law_k"] (ct_law_cell K)) (F_law_pool : Fn P w K mg base 4 (He.ga K "_law_pool") ["_law_cell_here"] (ct_law_pool K)) (F_law_take : Fn P w K mg base 4 (He.ga K "_law_take") ["_law_pool_here", "_law_many"] (ct_law_take K)) (F_law_names : Fn P w K mg base 6 (He.ga K "_law_names") ["_law_pool_here", "_law_many"] (ct_law_names K)) (F_law_tree : Fn P w K mg base 14 (He.ga K "_law_tree") ["_law_pool_here", "_law_lanes", "_law_depth"] (ct_law_tree 4 K)) (F_law_pattern : Fn P w K mg base 22 (He.ga K "_law_pattern") ["_law_tree_here"] (ct_law_pattern 5 K)) (F_law_is_word : Fn P w K mg base 24 (He.ga K "_law_is_word") ["_law_tree_here", "_law_lanes"] (ct_law_is_word K)) (F_law_all_words : Fn P w K mg base 4 (He.ga K "_law_all_words") ["_law_names_here", "_law_most"] (ct_law_all_words K)) (F_law_second : Fn P w K mg base 16 (He.ga K "_law_second") ["_law_pool_here", "_law_names_here", "_law_one"] (ct_law_second K)) (F_law_right : Fn P w K mg base 30 (He.ga K "_law_right") ["_law_one", "_law_two", "_law_words", "_law_longer"] (ct_law_right K)) (F_law_far_parted : Fn P w K mg base 30 (He.ga K "_law_far_parted") ["_law_name", "_law_number"] (ct_law_far_parted K)) (F : FunD K "law" "law" (defArgs s_law) (defBody s_law) (defScope s_law) [] [] (He.ga K "law") fd) : FnOk P w K mg base (L2.CX P w) 32 (He.ga K "law") fd ["_law_script"] (spC K (ct_law K)) := by
  refine fn_okF F sc_law (fun _ _ _ _ _ _ us hl => match us, hl with | [_], _ => rfl) ct1_len (fun cdv A outer s H E hr => ⟨_, (pss_cons (ps_set (i := 1) sc_law.nd rfl (by first | exact Or.inl rfl | exact Or.inr rfl) (pe_call (F_law_pool.up (by decide)).ok hr rfl T.g_law_pool.1 T.g_law_pool.2 (F_law_pool.up (by decide)).bn .nil (pass_own rfl rfl rfl rfl) (pa_cons (pe_call (F_law_cell.up (by decide)).ok hr rfl T.g_law_cell.1 T.g_law_cell.2 (F_law_cell.up (by decide)).bn .nil (pass_own rfl rfl rfl rfl) (pa_cons (pv 0) (pa_cons pe_int pa_nil))) pa_nil)))
      (pss_cons (ps_set (i := 2) sc_law.nd rfl (by first | exact Or.inl rfl | exact Or.inr rfl) (pe_call (F_law_names.up (by decide)).ok hr rfl T.g_law_names.1 T.g_law_names.2 (F_law_names.up (by decide)).bn .nil (pass_own rfl rfl rfl rfl) (pa_cons (pv 1) (pa_cons pe_int pa_nil))))
      (pss_cons (ps_set (i := 3) sc_law.nd rfl (by first | exact Or.inl rfl | exact Or.inr rfl) (pe_call (F_law_all_words.up (by decide)).ok hr rfl T.g_law_all_words.1 T.g_law_all_words.2 (F_law_all_words.up (by decide)).bn .nil (pass_own rfl rfl rfl rfl) (pa_cons (pv 2) (pa_cons pe_int pa_nil))))
      (pss_cons (ps_set (i := 4) sc_law.nd rfl (by first | exact Or.inl rfl | exact Or.inr rfl) (pe_call (F_law_tree.up (by decide)).ok hr rfl T.g_law_tree.1 T.g_law_tree.2 (F_law_tree.up (by decide)).bn .nil (pass_own rfl rfl rfl rfl) (pa_cons (pv 1) (pa_cons (pe_slice sl_U (pv 2) po_none (po_some (pe_op op_addU pe_int (pe_call (F_law_take.up (by decide)).ok hr rfl T.g_law_take.1 T.g_law_take.2 (F_law_take.up (by decide)).bn .nil (pass_own rfl rfl rfl rfl) (pa_cons (pv 1) (pa_cons pe_int pa_nil)))))) (pa_cons pe_int pa_nil)))))
      (pss_cons (ps_set (i := 1) sc_law.nd rfl (by first | exact Or.inl rfl | exact Or.inr rfl) (pe_call (F_law_pool.up (by decide)).ok hr rfl T.g_law_pool.1 T.g_law_pool.2 (F_law_pool.up (by decide)).bn .nil (pass_own rfl rfl rfl rfl) (pa_cons (pe_call (F_law_cell.up (by decide)).ok hr rfl T.g_law_cell.1 T.g_law_cell.2 (F_law_cell.up (by decide)).bn .nil (pass_own rfl rfl rfl rfl) (pa_cons (pv 0) (pa_cons pe_int pa_nil))) pa_nil)))
      (pss_cons (ps_set (i := 5) sc_law.nd rfl (by first | exact Or.inl rfl | exact Or.inr rfl) (pe_call (F_law_second.up (by decide)).ok hr rfl T.g_law_second.1 T.g_law_second.2 (F_law_second.up (by decide)).bn .nil (pass_own rfl rfl rfl rfl) (pa_cons (pv 1) (pa_cons (pe_slice sl_U (pv 2) po_none (po_some pe_int)) (pa_cons (pv 4) pa_nil)))))
      (pss_cons (ps_set (i := 6) sc_law.nd rfl (by first | exact Or.inl rfl | exact Or.inr rfl) (pe_lst pa_nil))
      (pss_cons (ps_for (passes_of rfl) rfl (pi_range1 rfl T.n_range (pa_cons pe_int pa_nil)) (pg_name (i := 7) sc_law.nd rfl (by first | exact Or.inl rfl | exact Or.inr rfl)) (pss_one (ps_expr (pe_bm PySem.F.plainAttrs_list PySem.F.slot_list_append PySem.F.type_list_append mt_append (pv 6) (pa_cons (pe_lc (te := (tOp (rIx K) (tVar 2) (tCall (spC K (ct_law_take K)) [] (fun _ _ _ => False) (tCons (tVar 1) (tCons (tC (.int 4)) tNil))))) (tt := tYes) (own := [("_law_turn", 8)]) rfl sc_law.nd (pi_range1 rfl T.n_range (pa_cons (pe_op op_addU pe_int (pe_call (F_law_take.up (by decide)).ok hr rfl T.g_law_take.1 T.g_law_take.2 (F_law_take.up (by decide)).bn .nil (pass_own rfl rfl rfl rfl) (pa_cons (pv 1) (pa_cons pe_int pa_nil)))) pa_nil)) (blk_ok ["_law_script", "_law_pool_here", "_law_names_here", "_law_words", "_law_one", "_law_two", "_law_longer", "_law_k", "_law_turn", "_law_walk", "_law_tree_here", "_law_name", "_law_due"] (defScope s_law) rfl rfl (by decide +kernel)) (fun _ _ _ _ _ => (pg_name (i := 8) sc_law.nd rfl (by first | exact Or.inl rfl | exact Or.inr rfl))) (fun _ _ _ _ _ => pts_nil) (fun _ _ _ _ _ => (pe_ix ix_seq (pv 2) (pe_call (F_law_take.up (by decide)).ok hr rfl T.g_law_take.1 T.g_law_take.2 (F_law_take.up (by decide)).bn .nil passes_no (pa_cons (pv 1) (pa_cons pe_int pa_nil))) fun _ _ => rfl))) pa_nil)))))
      (pss_cons (ps_if (PW.pt (pw_or (pt_not (pt_val (pe_call (F_law_right.up (by decide)).ok hr rfl T.g_law_right.1 T.g_law_right.2 (F_law_right.up (by decide)).bn .nil (pass_own rfl rfl rfl rfl) (pa_cons (pv 4) (pa_cons (pv 5) (pa_cons (pv 3) (pa_cons (pv 6) pa_nil))))))) (pw_or1 (pt_not (pt_val (pe_call (F_law_right.up (by decide)).ok hr rfl T.g_law_right.1 T.g_law_right.2 (F_law_right.up (by decide)).bn .nil (pass_own rfl rfl rfl rfl) (pa_cons (pv 5) (pa_cons (pv 4) (pa_cons (pv 3) (pa_cons (pv 6) pa_nil))))))))))
      (pss_one (ps_ret pe_bl))
      pss_nil)
      (pss_cons (ps_if (pt_not (pt_val (pe_call (F_law_right.up (by decide)).ok hr rfl T.g_law_right.1 T.g_law_right.2 (F_law_right.up (by decide)).bn .nil (pass_own rfl rfl rfl rfl) (pa_cons (pv 4) (pa_cons (pv 4) (pa_cons (pv 3) (pa_cons (pv 6) pa_nil)))))))
      (pss_one (ps_ret pe_bl))
      pss_nil)
      (pss_cons (ps_set (i := 9) sc_law.nd rfl (by first | exact Or.inl rfl | exact Or.inr rfl) (pe_callTy call_tupU rfl T.n_tuple (by decide +kernel) (pa_cons (pe_lc (te := (tOp (rIx K) (tVar 2) (tCall (spC K (ct_law_take K)) [] (fun _ _ _ => False) (tCons (tVar 1) (tCons (tC (.int 2)) tNil))))) (tt := tYes) (own := [("_law_turn", 8)]) rfl sc_law.nd (pi_range1 rfl T.n_range (pa_cons (pe_op op_addU pe_int (pe_call (F_law_take.up (by decide)).ok hr rfl T.g_law_take.1 T.g_law_take.2 (F_law_take.up (by decide)).bn .nil (pass_own rfl rfl rfl rfl) (pa_cons (pv 1) (pa_cons pe_int pa_nil)))) pa_nil)) (blk_ok ["_law_script", "_law_pool_here", "_law_names_here", "_law_words", "_law_one", "_law_two", "_law_longer", "_law_k", "_law_turn", "_law_walk", "_law_tree_here", "_law_name", "_law_due"] (defScope s_law) rfl rfl (by decide +kernel)) (fun _ _ _ _ _ => (pg_name (i := 8) sc_law.nd rfl (by first | exact Or.inl rfl | exact Or.inr rfl))) (fun _ _ _ _ _ => pts_nil) (fun _ _ _ _ _ => (pe_ix ix_seq (pv 2) (pe_call (F_law_take.up (by decide)).ok hr rfl T.g_law_take.1 T.g_law_take.2 (F_law_take.up (by decide)).bn .nil passes_no (pa_cons (pv 1) (pa_cons pe_int pa_nil))) fun _ _ => rfl))) pa_nil)))
      (pss_cons (ps_set (i := 10) sc_law.nd rfl (by first | exact Or.inl rfl | exact Or.inr rfl) (pe_tup (pa_cons pe_str (pa_cons (pe_lst (pa_cons (pe_ix ix_seq (pv 9) pe_int fun _ _ => rfl) pa_nil)) pa_nil))))
      (pss_cons (ps_for (passes_of rfl) rfl (pi_seq (pe_slice sl_U (pv 9) (po_some pe_int) po_none)) (pg_name (i := 11) sc_law.nd rfl (by first | exact Or.inl rfl | exact Or.inr rfl)) (pss_one (ps_set (i := 10) sc_law.nd rfl (by first | exact Or.inl rfl | exact Or.inr rfl) (pe_tup (pa_cons pe_str (pa_cons (pv 10) (pa_cons (pe_tup (pa_cons pe_str (pa_cons (pe_lst (pa_cons (pv 11) pa_nil)) pa_nil))) pa_nil)))))))
      (pss_cons (ps_if (pt_not (pt_val (pe_call (F_law_far_parted.up (by decide)).ok hr rfl T.g_law_far_parted.1 T.g_law_far_parted.2 (F_law_far_parted.up (by decide)).bn .nil (pass_own rfl rfl rfl rfl) (pa_cons (pe_ix ix_seq (pv 2) pe_int fun _ _ => rfl) (pa_cons (pe_op op_addU pe_int (pe_call (F_law_take.up (by decide)).ok hr rfl T.g_law_take.1 T.g_law_take.2 (F_law_take.up (by decide)).bn .nil (pass_own rfl rfl rfl rfl) (pa_cons (pv 1) (pa_cons pe_int pa_nil)))) pa_nil)))))
      (pss_one (ps_ret pe_bl))
      pss_nil)
      (pss_cons (ps_set (i := 12) sc_law.nd rfl (by first | exact Or.inl rfl | exact Or.inr rfl) (pe_call (F_law_is_word.up (by decide)).ok hr rfl T.g_law_is_word.1 T.g_law_is_word.2 (F_law_is_word.up (by decide)).bn .nil (pass_own rfl rfl rfl rfl) (pa_cons (pv 4) (pa_cons (pe_callTy call_lstU rfl T.n_list (by decide +kernel) (pa_cons (pv 9) pa_nil)) pa_nil))))
      (pss_one (ps_ret (pe_and (pe_cmpR (op_eqP (by have := (hr).units; exact this)) (pe_call (F_within.up (by decide)).ok hr rfl T.g_within.1 T.g_within.2 (F_within.up (by decide)).bn .nil (pass_own rfl rfl rfl rfl) (pa_cons (pv 9) (pa_cons (pe_call (F_law_pattern.up (by decide)).ok hr rfl T.g_law_pattern.1 T.g_law_pattern.2 (F_law_pattern.up (by decide)).bn .nil (pass_own rfl rfl rfl rfl) (pa_cons (pv 4) pa_nil)) pa_nil))) (pv 12) (nomark _)) (pe_one (pe_cmpR op_isN1 (pe_call (F_parting.up (by decide)).ok hr rfl T.g_parting.1 T.g_parting.2 (F_parting.up (by decide)).bn .nil (pass_own rfl rfl rfl rfl) (pa_cons (pv 9) (pa_cons (pe_call (F_law_pattern.up (by decide)).ok hr rfl T.g_law_pattern.1 T.g_law_pattern.2 (F_law_pattern.up (by decide)).bn .nil (pass_own rfl rfl rfl rfl) (pa_cons (pv 10) pa_nil)) pa_nil))) pe_non (nomark _))))))))))))))))))))), fun ws ka out B F0 Q hC hR hX => ?_⟩)
  obtain ⟨s0, rfl, zs, hs0, rfl, rfl⟩ := hC
  refine q_asgN (evn_callP (ea1 (ev_callP (ea2 (ev_var rfl) ev_int) ⟨_, _, rfl, zs, 0, hs0, rfl, rfl, rfl⟩)) ⟨_, rfl, _, rfl, rfl, rfl⟩) (fun a => ?_)
  refine q_call (kr := []) (k1 := [(a, .lst (plOf (zs.getD 0 0)).ds)]) (ea2 (ev_var rfl) ev_int) ⟨_, _, rfl, a, _, 0, 4, rfl, rfl, rfl, plOf_ok _, by decide, by decide, by decide, by decide, rfl⟩ (fun o k ⟨ss, p', h, _⟩ => ⟨_, h⟩) ?_
  rintro _ _ ⟨ns, p1, e, rfl, hp1, hln, hnm, -⟩
  cases e
  have hln : ns.length = 4 := hln
  obtain ⟨n0, n1, n2, n3, rfl⟩ : ∃ x y z u, ns = [x, y, z, u] := by
    match ns, hln with
    | [x, y, z, u], _ => exact ⟨x, y, z, u, rfl⟩
  refine q_asg (ev_callP (ea2 (ev_var rfl) ev_int) ⟨_, _, rfl, [n0, n1, n2, n3], rfl, rfl, Nat.le_refl _, rfl, rfl⟩) ?_
  have t1 := tk_lt p1 (m := 2) (by decide)
  have o1 := tk_ok hp1 (m := 2) (by decide)
  obtain ⟨j, hj, hj1⟩ : ∃ j : Nat, 2 + (tk p1 2).1 = ((j + 2 : Nat) : Int) ∧ j ≤ 1 := ⟨(tk p1 2).1.toNat, by omega, by omega⟩
  have cutj : cutD (stD [n0, n1, n2, n3]) none (some ((j + 2 : Nat) : Int)) = stD ([n0, n1, n2, n3].take (j + 2)) := by
    rw [cut_to' (by omega)]
    unfold stD
    rw [List.map_take]
    rfl
  have nej : [n0, n1, n2, n3].take (j + 2) ≠ [] := fun z => by have := congrArg List.length z; rw [List.length_take] at this; simp at this
  have nmt : ∀ i, ∀ x ∈ [n0, n1, n2, n3].take i, isNm x = true := fun i x hx => hnm x (List.mem_of_mem_take hx)
  refine q_call (kr := []) (k1 := [(a, .lst (tk p1 2).2.ds)]) (ea3 (ev_var rfl) ((evn_sl (ev_var rfl) eo_none (eo_some ((ev_addI ev_int (ev_take (kr := []) (ev_var rfl) ev_int (hp1.up (by decide)) (by decide) (by decide))).to (w' := .val (.int ((j + 2 : Nat) : Int))) (by rw [hj]))) .vl).lst.to (w' := .val (.lst (stD ([n0, n1, n2, n3].take (j + 2))))) (by rw [cutj])) ev_int) ⟨_, _, _, rfl, a, (tk p1 2).2, _, [n0, n1, n2, n3].take (j + 2), 2, rfl, rfl, rfl, rfl, o1, by decide, by decide, by decide, nej, by rw [List.length_take]; exact Nat.le_trans (Nat.min_le_right _ _) (Nat.le_of_ble_eq_true rfl), nmt _, rfl⟩ (fun o k ⟨ss, p', h, _⟩ => ⟨_, h⟩) ?_
  rintro _ _ ⟨t, p2, e, rfl, hp2, td, tn, tm⟩
  cases e
  refine q_asgN (evn_callP (ea1 (ev_callP (ea2 (ev_var rfl) ev_int) ⟨_, _, rfl, zs, 1, hs0, rfl, rfl, rfl⟩)) ⟨_, rfl, _, rfl, rfl, rfl⟩) (fun a2 => ?_)
  refine Gp.less (k1 := [(a2, .lst (plOf (zs.getD 1 0)).ds)]) ?_ (List.sublist_cons_self _ _)
  generalize hpz : plOf (zs.getD 1 0) = pz
  have hz := plOf_ok (zs.getD 1 0)
  rw [hpz] at hz
  have cut3 : cutD (stD [n0, n1, n2, n3]) none (some 3) = stD [n0, n1, n2] := rfl
  refine q_call (kr := []) (k1 := [(a2, .lst pz.ds)]) (ea3 (ev_var rfl) ((evn_sl (ev_var rfl) eo_none (eo_some ev_int) .vl).lst.to (w' := .val (.lst (stD [n0, n1, n2]))) (by rw [cut3])) (ev_var rfl)) ⟨_, _, _, rfl, a2, pz, 0, [n0, n1, n2], t, rfl, rfl, rfl, rfl, hz, by decide, by decide, List.cons_ne_nil _ _, Nat.le_of_ble_eq_true rfl, fun x hx => nmt 3 x hx, tn, td, rfl⟩ (fun o k ⟨ss, p', h, _⟩ => ⟨_, h⟩) ?_
  rintro _ _ ⟨u, p3, e, rfl, hp3, sec⟩
  cases e
  refine q_asgN (evn_lst (ds := []) ea_nil (Nat.le_of_ble_eq_true rfl)) (fun b => ?_)
  have dxm : ∀ (p : Pl) (m : Nat), [n0, n1, n2, n3].getD (tk p (m : Int)).1.toNat n0 ∈ [n0, n1, n2, n3] := fun p m => by
    rw [List.getD_eq_getElem?_getD]
    cases e : [n0, n1, n2, n3][(tk p (m : Int)).1.toNat]? with
    | none => exact List.mem_cons_self
    | some y => exact List.mem_of_getElem? e
  have drawn : ∀ {ro : Ro} {k : Cells} {p : Pl} {n : Int} {E' : XK} (m : Nat), 1 ≤ m → m ≤ 4 → p.Ok n → n ≤ 800000 → ro[1]? = some (some (.val (.adr a2))) → ro[2]? = some (some (.val (.lst (stD [n0, n1, n2, n3])))) → EvD K (tOp (rIx K) (tVar 2) (tCall (spC K (ct_law_take K)) [] E' (tCons (tVar 1) (tCons (tC (.int (m : Int))) tNil)))) ro ((a2, .lst (Pl.ds p)) :: k) (.val (.str ([n0, n1, n2, n3].getD (tk p (m : Int)).1.toNat n0))) ((a2, .lst (Pl.ds (tk p (m : Int)).2)) :: k) := fun {ro k p n E'} m h1 h4 ho hn e1 e2 => by
    have t5 := tk_lt p (m := (m : Int)) (by omega)
    have g : (tk p (m : Int)).1.toNat < [n0, n1, n2, n3].length := by
      show _ < 4
      omega
    have e : [n0, n1, n2, n3][(tk p (m : Int)).1.toNat]? = some ([n0, n1, n2, n3].getD (tk p (m : Int)).1.toNat n0) := by rw [List.getD_eq_getElem?_getD, List.getElem?_eq_getElem g]; rfl
    exact ev_ixV (ev_var e2) (ev_take (kr := k) (ev_var e1) ev_int (ho.up (by omega)) (by omega) (by omega)) .vl (atZ t5.1 (stD_get e))
  refine q_forn (ei_range1 (ea1 ev_int) (by decide) (by decide)) (fun i ro ka => ∃ (v7 v8 : Option W) (ls : List (List Str)) (p' : Pl), ro = [some s0, some (.val (.adr a2)), some (.val (.lst (stD [n0, n1, n2, n3]))), some (.val (.lst (rowD (allW [n0, n1, n2, n3] 4)))), some (.val (t.d true)), some (.val (u.d true)), some (.val (.adr b)), v7, v8, none, none, none, none] ∧ ka = [(a2, .lst (Pl.ds p')), (b, .lst (rowD ls))] ∧ p'.Ok (40 + 20 * (i : Int)) ∧ ls.length = i ∧ ∀ r ∈ ls, r.length ≤ 8)
    ⟨_, _, [], p3, rfl, rfl, hp3.up (by decide), rfl, fun r h => nomatch h⟩ (fun i ro ka _ => trivial) (fun i w ro2 ka2 ta' hw ⟨v7, v8, ls, p', e1, e2, hp', hl, hr⟩ => ?_) (fun ro2 ka2 ta' ⟨v7, v8, ls, p', e1, e2, hp', hl, hr⟩ _ => ?_)
  · subst e1 e2
    have hi : i < 12 := by
      have := (List.getElem?_eq_some_iff.mp hw).1
      rwa [List.length_map, List.length_range] at this
    have t2 := tk_lt p' (m := 4) (by decide)
    have o2 := tk_ok hp' (m := 4) (by decide)
    obtain ⟨c, hc, hc8⟩ : ∃ c : Nat, 5 + (tk p' 4).1 = (c : Int) ∧ c ≤ 8 := ⟨(5 + (tk p' 4).1).toNat, by omega, by omega⟩
    refine g_appR (j0 := 1) (ev_var rfl) rfl (EvNR.lstR (evr_lc (ei_range1 (ea1 ((ev_addI ev_int (ev_take (kr := [(b, .lst (rowD ls))]) (ev_var rfl) ev_int (hp'.up (by omega)) (by decide) (by decide))).to (w' := .val (.int (c : Int))) (by rw [hc]))) (by omega) (by omega)) (by decide) (by simp; omega) (fun j acc k => ∃ gs p5, acc = stD gs ∧ gs.length = j ∧ k = [(a2, .lst (Pl.ds p5)), (b, .lst (rowD ls))] ∧ p5.Ok (40 + 20 * (i : Int) + 1 + (j : Int))) ⟨[], _, rfl, rfl, rfl, o2.up (by omega)⟩ (fun j acc k _ => ⟨trivial, fun _ => trivial⟩) (fun j w acc k hw2 ⟨gs, p5, e1, e2, e3, hp5⟩ => ?hs)) (fun n k ⟨acc, e, _⟩ => ⟨acc, e⟩)) (fun w k2 ⟨ds, ⟨acc, e0, gs, p5, e1, e2, e3, hp5⟩, e4⟩ => ?_)
    case hs =>
      subst e1 e3
      have hj : j < 8 := by
        have := (List.getElem?_eq_some_iff.mp hw2).1
        simp at this
        omega
      have o5 := tk_ok hp5 (m := 4) (by decide)
      exact .inr ⟨_, _, .str ([n0, n1, n2, n3].getD (tk p5 ((4 : Nat) : Int)).1.toNat n0), et_yes, drawn 4 (by decide) (by decide) hp5 (by omega) rfl rfl, gs ++ [_], _, stD_app gs [_], by rw [List.length_append, e2]; rfl, rfl, o5.up (by push_cast; omega)⟩
    cases e0
    subst e1 e3 e4
    have gl : gs.length = c := by rw [e2]; simp
    refine ⟨.lst (stD gs), rowD ls, 1, rfl, rfl, by rw [rowD_len]; omega, g_jp ⟨_, _, ls ++ [gs], p5, rfl, ?_, hp5.up (by rw [List.length_map, List.length_range]; push_cast; omega), by rw [List.length_append, hl]; rfl, fun r h => ?_⟩⟩
    · rw [← rowD_app]
      rfl
    · rcases List.mem_append.mp h with h | h
      · exact hr r h
      · rw [List.mem_singleton.mp h]
        omega
  subst e1 e2
  rw [List.length_map, List.length_range] at hp' hl
  have hp' : p'.Ok 300 := (show p'.Ok 280 from hp').up (by decide)
  have hl : ls.length = 12 := hl
  refine Gp.frz (i := 6) (j := 1) (ds := rowD ls) rfl rfl ?_
  have sec2 := sec.swap
  have sec3 := sec_two tn td tn td
  have aw := allW_len (ns := [n0, n1, n2, n3]) (Nat.le_refl 4) 4 (Nat.le_refl _)
  have ain : ∀ r ∈ allW [n0, n1, n2, n3] 4, r.length ≤ 256 := fun r h => Nat.le_trans (allW_in r h).1 (by decide)
  have lin : ∀ r ∈ ls, r.length ≤ 256 := fun r h => Nat.le_trans (hr r h) (by decide)
  refine q_when (b := false) (et_or0 ((et_not (et_B (ev_callP (d := .bl true) (ea_cons (ev_var rfl) (ea3 (ev_var rfl) (ev_var rfl) (ev_var rfl))) ⟨_, _, _, _, rfl, t, u, _, ls, rfl, rfl, rfl, rfl, sec, by omega, ain, by omega, lin, rfl, rfl⟩))).to rfl) ((et_not (et_B (ev_callP (d := .bl true) (ea_cons (ev_var rfl) (ea3 (ev_var rfl) (ev_var rfl) (ev_var rfl))) ⟨_, _, _, _, rfl, u, t, _, ls, rfl, rfl, rfl, rfl, sec2, by omega, ain, by omega, lin, rfl, rfl⟩))).to rfl)) (fun z => by cases z) (fun _ => ?_)
  refine q_when (b := false) ((et_not (et_B (ev_callP (d := .bl true) (ea_cons (ev_var rfl) (ea3 (ev_var rfl) (ev_var rfl) (ev_var rfl))) ⟨_, _, _, _, rfl, t, t, _, ls, rfl, rfl, rfl, rfl, sec3, by omega, ain, by omega, lin, rfl, rfl⟩))).to rfl) (fun z => by cases z) (fun _ => ?_)
  have t3 := tk_lt p' (m := 3) (by decide)
  have o3 := tk_ok hp' (m := 3) (by decide)
  obtain ⟨c, hc, hc3⟩ : ∃ c : Nat, 1 + (tk p' 3).1 = ((c + 1 : Nat) : Int) ∧ c ≤ 2 := ⟨(tk p' 3).1.toNat, by omega, by omega⟩
  refine q_asgR (evr_cbR (P2 := fun w k => ∃ x xs p5, w = .val (.tup (stD (x :: xs))) ∧ k = [(a2, .lst (Pl.ds p5))] ∧ p5.Ok 400 ∧ xs.length ≤ 2 ∧ ∀ y ∈ x :: xs, y ∈ [n0, n1, n2, n3]) (EvNR.lstR (evr_lc (ei_range1 (ea1 ((ev_addI ev_int (ev_take (kr := []) (ev_var rfl) ev_int (hp'.up (by omega)) (by decide) (by decide))).to (w' := .val (.int ((c + 1 : Nat) : Int))) (by rw [hc]))) (by omega) (by omega)) (by decide) (by simp; omega) (fun j acc k => ∃ gs p5, acc = stD gs ∧ gs.length = j ∧ (∀ y ∈ gs, y ∈ [n0, n1, n2, n3]) ∧ k = [(a2, .lst (Pl.ds p5))] ∧ p5.Ok (301 + (j : Int))) ⟨[], _, rfl, rfl, (fun y h => nomatch h), rfl, o3.up (by omega)⟩ (fun j acc k _ => ⟨trivial, fun _ => trivial⟩) (fun j w acc k hw2 ⟨gs, p5, e1, e2, e3, e4, hp5⟩ => ?hs)) (fun n k ⟨acc, e, _⟩ => ⟨acc, e⟩)) (fun w k hk => ?tup)) (fun w k hk => ?_)
  case hs =>
    subst e1 e4
    have hj : j < 3 := by
      have := (List.getElem?_eq_some_iff.mp hw2).1
      simp at this
      omega
    have o5 := tk_ok hp5 (m := 2) (by decide)
    exact .inr ⟨_, _, .str ([n0, n1, n2, n3].getD (tk p5 ((2 : Nat) : Int)).1.toNat n0), et_yes, drawn 2 (by decide) (by decide) hp5 (by omega) rfl rfl, gs ++ [_], _, stD_app gs [_], by rw [List.length_append, e2]; rfl, fun y hy => by
      rcases List.mem_append.mp hy with hy | hy
      · exact e3 y hy
      · rw [List.mem_singleton.mp hy]; exact dxm p5 2, rfl, o5.up (by push_cast; omega)⟩
  case tup =>
    obtain ⟨ds, ⟨acc, e0, gs, p5, e1, e2, e3, e4, hp5⟩, e5⟩ := hk
    cases e0
    subst e1 e4 e5
    have gl : gs.length = c + 1 := by rw [e2]; simp
    obtain ⟨x, xs, rfl⟩ : ∃ x xs, gs = x :: xs := by
      cases gs with
      | nil => cases gl
      | cons x xs => exact ⟨x, xs, rfl⟩
    rw [List.length_cons] at gl
    exact ⟨_, rc_tupL .vl (.inl rfl), x, xs, p5, rfl, rfl, hp5.up (by rw [List.length_map, List.length_range]; omega), by omega, e3⟩
  obtain ⟨x, xs, p5, rfl, rfl, hp5, hxl, hxm⟩ := hk
  have nmx : ∀ y ∈ x :: xs, isNm y = true := fun y hy => hnm y (hxm y hy)
  refine q_asg (w := .val ((wdT x []).d true)) (ev_tup (ds := [.str "any", .lst (stD [x])]) (ea2 ev_str (evn_lst (ds := [.str x]) (ea1 (ev_ixV (ev_var rfl) ev_int .vt at0)) (Nat.le_of_ble_eq_true rfl)).lst) (Nat.le_of_ble_eq_true rfl)) ?_
  have cut1 : cutD (stD (x :: xs)) (some 1) none = stD xs := by
    rw [cut_from (by decide) (by rw [stD_len, List.length_cons]; omega)]
    rfl
  refine q_forn (ei_strsL (t := true) (b := false) (ss := xs) ((ev_slT (ev_var rfl) (eo_some ev_int) eo_none).to (by rw [cut1])) .vt) (fun i ro ka => ∃ (v7 v8 v11 : Option W), ro = [some s0, some (.val (.adr a2)), some (.val (.lst (stD [n0, n1, n2, n3]))), some (.val (.lst (rowD (allW [n0, n1, n2, n3] 4)))), some (.val (t.d true)), some (.val (u.d true)), some (.val (.lst (rowD ls))), v7, v8, some (.val (.tup (stD (x :: xs)))), some (.val ((wdT x (xs.take i)).d true)), v11, none] ∧ ka = [(a2, .lst (Pl.ds p5))])
    ⟨_, _, _, rfl, rfl⟩ (fun i ro ka _ => trivial) (fun i w ro2 ka2 ta' hw ⟨v7, v8, v11, e1, e2⟩ => ?_) (fun ro2 ka2 ta' ⟨v7, v8, v11, e1, e2⟩ _ => ?_)
  · subst e1 e2
    rw [List.getElem?_map] at hw
    obtain ⟨y, hy, rfl⟩ := Option.map_eq_some_iff.mp hw
    refine g_asg (w := .val ((wdT x (xs.take (i + 1))).d true)) ((ev_tup (ds := [.str "join", (wdT x (xs.take i)).d true, .tup [.str "any", .lst (stD [y])]]) (ea3 ev_str (ev_var rfl) (ev_tup (ds := [.str "any", .lst (stD [y])]) (ea2 ev_str (evn_lst (ds := [.str y]) (ea1 (ev_var rfl)) (Nat.le_of_ble_eq_true rfl)).lst) (Nat.le_of_ble_eq_true rfl))) (Nat.le_of_ble_eq_true rfl)).to ?_) (g_jp ⟨_, _, _, rfl, rfl⟩)
    rw [take_succ_some hy, wd_d]
  subst e1 e2
  rw [List.length_map, List.take_length]
  have t6 := tk_lt p5 (m := 2) (by decide)
  have o6 := tk_ok hp5 (m := 2) (by decide)
  obtain ⟨m, hm, hm2⟩ : ∃ m : Nat, 2 + (tk p5 2).1 = (m : Int) + 1 ∧ m ≤ 2 := ⟨(1 + (tk p5 2).1).toNat, by omega, by omega⟩
  refine q_when (b := false) ((et_not (et_B (ev_callP (d := .bl true) (ea2 (ev_ixV (ev_var rfl) ev_int .vl at0) ((ev_addI ev_int (ev_take (kr := []) (ev_var rfl) ev_int (hp5.up (by decide)) (by decide) (by decide))).to (w' := .val (.int ((m : Int) + 1))) (by rw [hm]))) ⟨_, _, rfl, n0, m, rfl, rfl, hnm n0 List.mem_cons_self, hm2, rfl, rfl⟩))).to rfl) (fun z => by cases z) (fun _ => ?_)
  refine Gp.less (k1 := []) ?_ (List.nil_sublist _)
  have wn := wdT_nice nmx
  have wa := wdT_ats x xs
  obtain ⟨_, _, wd, _⟩ := wd_ats x xs
  have te := (EbOk.dep (n := 256) (by decide) (by decide) td)
  have tat := ats_two td (k := 4) rfl
  refine q_asg (w := .val (.bl (wdB t (x :: xs)))) (ev_callP (ea2 (ev_var rfl) (evn_cb (ea1 (ev_var rfl)) (rcn_lst .vt (sqf_stD _ _))).lst) ⟨_, _, rfl, t, x :: xs, rfl, rfl, by omega, te.mono (by rw [List.length_cons]; omega), by rw [List.length_cons]; omega, rfl, rfl⟩) ?_
  have pr1 : PrOk (wdT x xs) t 256 := (PrOk.all (wdT x xs) t).up (Nat.le_trans (Nat.mul_le_mul (Nat.pow_le_pow_right (by decide) (show (wdT x xs).ats ≤ 3 by omega)) (Nat.pow_le_pow_right (by decide) tat)) (by decide))
  have pr2 : PrOk (wdT x xs) (wdT x xs) 256 := (PrOk.all (wdT x xs) (wdT x xs)).up (Nat.le_trans (Nat.mul_le_mul (Nat.pow_le_pow_right (by decide) (show (wdT x xs).ats ≤ 3 by omega)) (Nat.pow_le_pow_right (by decide) (show (wdT x xs).ats ≤ 3 by omega))) (by decide))
  have lp1 := lp_nice wn tn (by omega) (by omega) (by omega) (by omega) pr1
  have lp2 := lp_nice wn wn (by omega) (by omega) (by omega) (by omega) pr2
  have wW : WiR K (.val (.tup (stD (x :: xs)))) (wdT x xs) := .inr ⟨x, xs, rfl, rfl, by omega, nmx⟩
  have wT : WiR K (.val (PaD K (t.d false))) t := .inl ⟨rfl, by omega, nice_sm tn (by omega), by omega⟩
  have wP : WiR K (.val (PaD K ((wdT x xs).d false))) (wdT x xs) := .inl ⟨rfl, by omega, nice_sm wn (by omega), by omega⟩
  have same : wiB (wdT x xs) t = wdB t (x :: xs) := by
    rw [Bool.eq_iff_iff, wi_iff, wdB_iff]
    exact ⟨fun h => h _ (wdT_lg.mpr rfl), fun h w hw => by rw [wdT_lg.mp hw]; exact h⟩
  refine g_ret hR (ev_andV1 ((ev_eqB (i := wiB (wdT x xs) t) (j := wdB t (x :: xs)) (ev_callP (ea2 (ev_var rfl) (ev_callP (ea1 (ev_var rfl)) ⟨_, rfl, t, rfl, by omega, tn, rfl, rfl⟩)) ⟨_, _, rfl, wdT x xs, t, 256, wW, wT, lp1, rfl, rfl⟩) (ev_var rfl)).to (w' := .val (.bl true)) (by rw [same]; simp)) (ev_noneR (k1 := []) (bb := true) (evr_call (k1 := []) [] (ea2 (ev_var rfl) (ev_callP (ea1 (ev_var rfl)) ⟨_, rfl, wdT x xs, rfl, by omega, wn, rfl, rfl⟩)) ⟨_, _, rfl, wdT x xs, wdT x xs, 256, wW, wP, lp2, rfl, rfl⟩ (fun o k ⟨_, r, e, _⟩ => ⟨_, e⟩)) ?_)) ⟨rfl, rfl⟩
  rintro w k ⟨d, k2, ⟨rfl, r, e, hp, _⟩, rfl, rfl⟩
  cases e
  rw [pa_self hp]
  exact ⟨⟨_, rfl, rfl⟩, List.nil_sublist _⟩
end
theorem tx_of {K : PySem.W.Frag} {mg : Str → Option Value} {h : Heap} (X : K.In h) (G : h.Ns mainGlobals mg) (c : SaysY exs dfs K) : Tx K mg where
  v_LETTERS := (let ⟨t, e⟩ := He.str_ok X G (c.fact 0 (f := fStr "LETTERS" "abcdefghijklmnopqrstuvwxyz")); ⟨_, e, t, rfl⟩)
  n_len := He.free_ok X G (c.fact 1 (f := fFree "len"))
  v_LONGEST := (let ⟨t, e⟩ := He.int_ok X G (c.fact 2 (f := fInt "LONGEST" 8)); ⟨_, e, t, rfl⟩)
  n_isinstance := He.free_ok X G (c.fact 3 (f := fFree "isinstance"))
  n_str := He.free_ok X G (c.fact 4 (f := fFree "str"))
  n_all := He.free_ok X G (c.fact 5 (f := fFree "all"))
  v_DIGITS := (let ⟨t, e⟩ := He.str_ok X G (c.fact 6 (f := fStr "DIGITS" "0123456789")); ⟨_, e, t, rfl⟩)
  n_bool := He.free_ok X G (c.fact 7 (f := fFree "bool"))
  n_int := He.free_ok X G (c.fact 8 (f := fFree "int"))
  g_is_whole := ⟨He.glo_ok X G (He.ba (c.fact 9 (f := fGlo "is_whole"))).1, (He.ba (c.fact 9 (f := fGlo "is_whole"))).2⟩
  g_is_name := ⟨He.glo_ok X G (He.ba (c.fact 10 (f := fGlo "is_name"))).1, (He.ba (c.fact 10 (f := fGlo "is_name"))).2⟩
  n_list := He.free_ok X G (c.fact 11 (f := fFree "list"))
  n_tuple := He.free_ok X G (c.fact 12 (f := fFree "tuple"))
  x0_EmptyWalk := He.exc_ok (c.fact 13 (f := fX0 "EmptyWalk"))
  g_EmptyWalk := ⟨He.glo_ok X G (He.ba (c.fact 14 (f := fGlo "EmptyWalk"))).1, (He.ba (c.fact 14 (f := fGlo "EmptyWalk"))).2⟩
  g_BadName := ⟨He.glo_ok X G (He.ba (c.fact 15 (f := fGlo "BadName"))).1, (He.ba (c.fact 15 (f := fGlo "BadName"))).2⟩
  g_read_tree := ⟨He.glo_ok X G (He.ba (c.fact 16 (f := fGlo "read_tree"))).1, (He.ba (c.fact 16 (f := fGlo "read_tree"))).2⟩
  g_crossed := ⟨He.glo_ok X G (He.ba (c.fact 17 (f := fGlo "crossed"))).1, (He.ba (c.fact 17 (f := fGlo "crossed"))).2⟩
  mk_Machine := He.mkr_ok (c.fact 18 (f := fMkr "Machine"))
  g_Machine := ⟨He.glo_ok X G (He.ba (c.fact 19 (f := fGlo "Machine"))).1, (He.ba (c.fact 19 (f := fGlo "Machine"))).2⟩
  n_any := He.free_ok X G (c.fact 20 (f := fFree "any"))
  cl_Machine := He.cls_ok (c.fact 21 (f := fCls "Machine"))
  me_Machine_is_behind := He.meth_ok (c.fact 22 (f := fMeth "Machine" "is_behind"))
  me_Machine_takes := He.meth_ok (c.fact 23 (f := fMeth "Machine" "takes"))
  n_range := He.free_ok X G (c.fact 24 (f := fFree "range"))
  me_Machine_started := He.meth_ok (c.fact 25 (f := fMeth "Machine" "started"))
  me_Machine_after := He.meth_ok (c.fact 26 (f := fMeth "Machine" "after"))
  me_Machine_is_done := He.meth_ok (c.fact 27 (f := fMeth "Machine" "is_done"))
  g_all_names := ⟨He.glo_ok X G (He.ba (c.fact 28 (f := fGlo "all_names"))).1, (He.ba (c.fact 28 (f := fGlo "all_names"))).2⟩
  g_accepts := ⟨He.glo_ok X G (He.ba (c.fact 29 (f := fGlo "accepts"))).1, (He.ba (c.fact 29 (f := fGlo "accepts"))).2⟩
  g_made_machine := ⟨He.glo_ok X G (He.ba (c.fact 30 (f := fGlo "made_machine"))).1, (He.ba (c.fact 30 (f := fGlo "made_machine"))).2⟩
  g_are_names := ⟨He.glo_ok X G (He.ba (c.fact 31 (f := fGlo "are_names"))).1, (He.ba (c.fact 31 (f := fGlo "are_names"))).2⟩
  g_Pattern := ⟨He.glo_ok X G (He.ba (c.fact 32 (f := fGlo "Pattern"))).1, (He.ba (c.fact 32 (f := fGlo "Pattern"))).2⟩
  mk_Pattern := He.mkr_ok (c.fact 33 (f := fMkr "Pattern"))
  g_joined := ⟨He.glo_ok X G (He.ba (c.fact 34 (f := fGlo "joined"))).1, (He.ba (c.fact 34 (f := fGlo "joined"))).2⟩
  g_is_count := ⟨He.glo_ok X G (He.ba (c.fact 35 (f := fGlo "is_count"))).1, (He.ba (c.fact 35 (f := fGlo "is_count"))).2⟩
  g_BadNumber := ⟨He.glo_ok X G (He.ba (c.fact 36 (f := fGlo "BadNumber"))).1, (He.ba (c.fact 36 (f := fGlo "BadNumber"))).2⟩
  g_check_lanes := ⟨He.glo_ok X G (He.ba (c.fact 37 (f := fGlo "check_lanes"))).1, (He.ba (c.fact 37 (f := fGlo "check_lanes"))).2⟩
  g_word_pattern := ⟨He.glo_ok X G (He.ba (c.fact 38 (f := fGlo "word_pattern"))).1, (He.ba (c.fact 38 (f := fGlo "word_pattern"))).2⟩
  g_as_pattern := ⟨He.glo_ok X G (He.ba (c.fact 39 (f := fGlo "as_pattern"))).1, (He.ba (c.fact 39 (f := fGlo "as_pattern"))).2⟩
  g_machine_of := ⟨He.glo_ok X G (He.ba (c.fact 40 (f := fGlo "machine_of"))).1, (He.ba (c.fact 40 (f := fGlo "machine_of"))).2⟩
  g_least_parting := ⟨He.glo_ok X G (He.ba (c.fact 41 (f := fGlo "least_parting"))).1, (He.ba (c.fact 41 (f := fGlo "least_parting"))).2⟩
  g_law_take := ⟨He.glo_ok X G (He.ba (c.fact 42 (f := fGlo "_law_take"))).1, (He.ba (c.fact 42 (f := fGlo "_law_take"))).2⟩
  g_law_tree := ⟨He.glo_ok X G (He.ba (c.fact 43 (f := fGlo "_law_tree"))).1, (He.ba (c.fact 43 (f := fGlo "_law_tree"))).2⟩
  g_none_of := ⟨He.glo_ok X G (He.ba (c.fact 44 (f := fGlo "none_of"))).1, (He.ba (c.fact 44 (f := fGlo "none_of"))).2⟩
  g_any_of := ⟨He.glo_ok X G (He.ba (c.fact 45 (f := fGlo "any_of"))).1, (He.ba (c.fact 45 (f := fGlo "any_of"))).2⟩
  g_law_atom := ⟨He.glo_ok X G (He.ba (c.fact 46 (f := fGlo "_law_atom"))).1, (He.ba (c.fact 46 (f := fGlo "_law_atom"))).2⟩
  g_law_pattern := ⟨He.glo_ok X G (He.ba (c.fact 47 (f := fGlo "_law_pattern"))).1, (He.ba (c.fact 47 (f := fGlo "_law_pattern"))).2⟩
  g_repeated := ⟨He.glo_ok X G (He.ba (c.fact 48 (f := fGlo "repeated"))).1, (He.ba (c.fact 48 (f := fGlo "repeated"))).2⟩
  g_optional := ⟨He.glo_ok X G (He.ba (c.fact 49 (f := fGlo "optional"))).1, (He.ba (c.fact 49 (f := fGlo "optional"))).2⟩
  bo_Pattern_BitOr := bo_ok (c.fact 50 (f := fBo "Pattern" .BitOr))
  bo_Pattern_Add := bo_ok (c.fact 51 (f := fBo "Pattern" .Add))
  n_enumerate := He.free_ok X G (c.fact 52 (f := fFree "enumerate"))
  g_law_takes := ⟨He.glo_ok X G (He.ba (c.fact 53 (f := fGlo "_law_takes"))).1, (He.ba (c.fact 53 (f := fGlo "_law_takes"))).2⟩
  g_law_ends_of := ⟨He.glo_ok X G (He.ba (c.fact 54 (f := fGlo "_law_ends_of"))).1, (He.ba (c.fact 54 (f := fGlo "_law_ends_of"))).2⟩
  g_law_distinct := ⟨He.glo_ok X G (He.ba (c.fact 55 (f := fGlo "_law_distinct"))).1, (He.ba (c.fact 55 (f := fGlo "_law_distinct"))).2⟩
  g_law_is_word := ⟨He.glo_ok X G (He.ba (c.fact 56 (f := fGlo "_law_is_word"))).1, (He.ba (c.fact 56 (f := fGlo "_law_is_word"))).2⟩
  g_law_only := ⟨He.glo_ok X G (He.ba (c.fact 57 (f := fGlo "_law_only"))).1, (He.ba (c.fact 57 (f := fGlo "_law_only"))).2⟩
  g_within := ⟨He.glo_ok X G (He.ba (c.fact 58 (f := fGlo "within"))).1, (He.ba (c.fact 58 (f := fGlo "within"))).2⟩
  g_parting := ⟨He.glo_ok X G (He.ba (c.fact 59 (f := fGlo "parting"))).1, (He.ba (c.fact 59 (f := fGlo "parting"))).2⟩
  bo_Pattern_Mult := bo_ok (c.fact 60 (f := fBo "Pattern" .Mult))
  sm_Pattern_contains := sm_ok (c.fact 61 (f := fSm "Pattern" "__contains__"))
  g_law_pool := ⟨He.glo_ok X G (He.ba (c.fact 62 (f := fGlo "_law_pool"))).1, (He.ba (c.fact 62 (f := fGlo "_law_pool"))).2⟩
  g_law_cell := ⟨He.glo_ok X G (He.ba (c.fact 63 (f := fGlo "_law_cell"))).1, (He.ba (c.fact 63 (f := fGlo "_law_cell"))).2⟩
  g_law_names := ⟨He.glo_ok X G (He.ba (c.fact 64 (f := fGlo "_law_names"))).1, (He.ba (c.fact 64 (f := fGlo "_law_names"))).2⟩
  g_law_all_words := ⟨He.glo_ok X G (He.ba (c.fact 65 (f := fGlo "_law_all_words"))).1, (He.ba (c.fact 65 (f := fGlo "_law_all_words"))).2⟩
  g_law_second := ⟨He.glo_ok X G (He.ba (c.fact 66 (f := fGlo "_law_second"))).1, (He.ba (c.fact 66 (f := fGlo "_law_second"))).2⟩
  g_law_right := ⟨He.glo_ok X G (He.ba (c.fact 67 (f := fGlo "_law_right"))).1, (He.ba (c.fact 67 (f := fGlo "_law_right"))).2⟩
  g_law_far_parted := ⟨He.glo_ok X G (He.ba (c.fact 68 (f := fGlo "_law_far_parted"))).1, (He.ba (c.fact 68 (f := fGlo "_law_far_parted"))).2⟩
  xc_BadName := xcB_ok (c.fact 69 (f := fXc "BadName"))
  xi_BadName := xi_ok (c.fact 70 (f := fXi "BadName"))
  xn_BadName_name := He.noat_ok (c.fact 71 (f := fNoat "BadName" "name"))
  xc_BadNumber := xcB_ok (c.fact 72 (f := fXc "BadNumber"))
  xi_BadNumber := xi_ok (c.fact 73 (f := fXi "BadNumber"))
  xn_BadNumber_value := He.noat_ok (c.fact 74 (f := fNoat "BadNumber" "value"))
  g_law := ⟨He.glo_ok X G (He.ba (c.fact 75 (f := fGlo "law"))).1, (He.ba (c.fact 75 (f := fGlo "law"))).2⟩
  kt_NoneType_str := kit_ok (c.fact 76 (f := fKit "NoneType" "str" false))
  kt_bool_str := kit_ok (c.fact 77 (f := fKit "bool" "str" false))
  kt_int_str := kit_ok (c.fact 78 (f := fKit "int" "str" false))
  kt_list_str := kit_ok (c.fact 79 (f := fKit "list" "str" false))
  kt_tuple_str := kit_ok (c.fact 80 (f := fKit "tuple" "str" false))
  kt_str_str := kit_ok (c.fact 81 (f := fKit "str" "str" true))
  kt_NoneType_int := kit_ok (c.fact 82 (f := fKit "NoneType" "int" false))
  kt_str_int := kit_ok (c.fact 83 (f := fKit "str" "int" false))
  kt_list_int := kit_ok (c.fact 84 (f := fKit "list" "int" false))
  kt_tuple_int := kit_ok (c.fact 85 (f := fKit "tuple" "int" false))
  kt_int_int := kit_ok (c.fact 86 (f := fKit "int" "int" true))
  kt_int_bool := kit_ok (c.fact 87 (f := fKit "int" "bool" false))
  kt_bool_int := kit_ok (c.fact 88 (f := fKit "bool" "int" true))
  kt_bool_bool := kit_ok (c.fact 89 (f := fKit "bool" "bool" true))
  kt_NoneType_tuple := kit_ok (c.fact 90 (f := fKit "NoneType" "tuple" false))
  kt_NoneType_list := kit_ok (c.fact 91 (f := fKit "NoneType" "list" false))
  kt_str_tuple := kit_ok (c.fact 92 (f := fKit "str" "tuple" false))
  kt_str_list := kit_ok (c.fact 93 (f := fKit "str" "list" false))
  kt_int_tuple := kit_ok (c.fact 94 (f := fKit "int" "tuple" false))
  kt_int_list := kit_ok (c.fact 95 (f := fKit "int" "list" false))
  kt_dict_tuple := kit_ok (c.fact 96 (f := fKit "dict" "tuple" false))
  kt_dict_list := kit_ok (c.fact 97 (f := fKit "dict" "list" false))
  kt_tuple_tuple := kit_ok (c.fact 98 (f := fKit "tuple" "tuple" true))
  kt_tuple_list := kit_ok (c.fact 99 (f := fKit "tuple" "list" false))
  kt_list_tuple := kit_ok (c.fact 100 (f := fKit "list" "tuple" false))
  kt_list_list := kit_ok (c.fact 101 (f := fKit "list" "list" true))
  na_Machine_atoms := He.noat_ok (c.fact 102 (f := fNoat "Machine" "atoms"))
  na_Machine_firsts := He.noat_ok (c.fact 103 (f := fNoat "Machine" "firsts"))
  na_Machine_lasts := He.noat_ok (c.fact 104 (f := fNoat "Machine" "lasts"))
  na_Machine_pairs := He.noat_ok (c.fact 105 (f := fNoat "Machine" "pairs"))
  na_Machine_is_optional := He.noat_ok (c.fact 106 (f := fNoat "Machine" "is_optional"))
  np_0 := noP_ok (c.fact 107 (f := fNoP))
  cl_Pattern := He.cls_ok (c.fact 108 (f := fCls "Pattern"))
  na_Pattern_tree := He.noat_ok (c.fact 109 (f := fNoat "Pattern" "tree"))
  ci_Pattern := clsI_ok (c.fact 110 (f := fClsI "Pattern"))
  ko_Pattern_Pattern := kitO_ok (c.fact 111 (f := fKitO "Pattern" "Pattern" true))
  kc_list_Pattern := kitC_ok (c.fact 112 (f := fKitC "list" "Pattern" false))
  kc_tuple_Pattern := kitC_ok (c.fact 113 (f := fKitC "tuple" "Pattern" false))
  bt_Pattern_Mult_int := boT_ok (c.fact 114 (f := fBoT "Pattern" .Mult "int"))
  d_is_name := c.def_ 0
  d_is_whole := c.def_ 1
  d_is_count := c.def_ 2
  d_are_names := c.def_ 3
  d_check_lanes := c.def_ 4
  d_crossed := c.def_ 5
  d_read_tree := c.def_ 6
  d_Machine___init := c.def_ 7
  d_made_machine := c.def_ 8
  d_Machine_takes := c.def_ 9
  d_Machine_is_behind := c.def_ 10
  d_Machine_after := c.def_ 11
  d_Machine_started := c.def_ 12
  d_Machine_is_done := c.def_ 13
  d_accepts := c.def_ 14
  d_all_names := c.def_ 15
  d_least_parting := c.def_ 16
  d_joined := c.def_ 17
  d_Pattern___init := c.def_ 18
  d_Pattern___contains := c.def_ 19
  d_Pattern___add := c.def_ 20
  d_Pattern___or := c.def_ 21
  d_Pattern___mul := c.def_ 22
  d_any_of := c.def_ 23
  d_none_of := c.def_ 24
  d_repeated := c.def_ 25
  d_optional := c.def_ 26
  d_word_pattern := c.def_ 27
  d_as_pattern := c.def_ 28
  d_machine_of := c.def_ 29
  d_within := c.def_ 30
  d_parting := c.def_ 31
  d_law_cell := c.def_ 32
  d_law_pool := c.def_ 33
  d_law_take := c.def_ 34
  d_law_names := c.def_ 35
  d_law_tree := c.def_ 36
  d_law_atom := c.def_ 37
  d_law_pattern := c.def_ 38
  d_law_takes := c.def_ 39
  d_law_distinct := c.def_ 40
  d_law_ends_of := c.def_ 41
  d_law_is_word := c.def_ 42
  d_law_all_words := c.def_ 43
  d_law_second := c.def_ 44
  d_law_only := c.def_ 45
  d_law_right := c.def_ 46
  d_law_far_parted := c.def_ 47
  d_law := c.def_ 48
  d_BadName___init := c.def_ 49
  d_BadNumber___init := c.def_ 50
section
variable {P : Program} {w : World} {K : PySem.W.Frag} {mg : Str → Option Value} {base : Heap}
theorem z_BadName (T : Tx K mg) : Xn P w K mg base (He.ga K "BadName") "name" := by
  obtain ⟨fd, F⟩ := T.d_BadName___init
  exact ⟨T.xc_BadName, T.xn_BadName_name, _, fd, "name", T.xi_BadName.1, T.xi_BadName.2, init1_ok F sc_BadName___init (fun cdv A outer s H E => pss_one (ps_ost (pv 0) (pv 1))), F.bindsN (fun _ _ _ _ _ _ us hl => match us, hl with | [_, _], _ => rfl)⟩
theorem z_BadNumber (T : Tx K mg) : Xn P w K mg base (He.ga K "BadNumber") "value" := by
  obtain ⟨fd, F⟩ := T.d_BadNumber___init
  exact ⟨T.xc_BadNumber, T.xn_BadNumber_value, _, fd, "value", T.xi_BadNumber.1, T.xi_BadNumber.2, init1_ok F sc_BadNumber___init (fun cdv A outer s H E => pss_one (ps_ost (pv 0) (pv 1))), F.bindsN (fun _ _ _ _ _ _ us hl => match us, hl with | [_, _], _ => rfl)⟩
theorem all_ok {fd : FuncData} (T : Tx K mg) (F : FunD K "law" "law" (defArgs s_law) (defBody s_law) (defScope s_law) [] [] (He.ga K "law") fd) : FnOk P w K mg base (L2.CX P w) 32 (He.ga K "law") fd ["_law_script"] (spC K (ct_law K)) := by
  have Z_BadName : Xn P w K mg base (He.ga K "BadName") "name" := z_BadName T
  have Z_BadNumber : Xn P w K mg base (He.ga K "BadNumber") "value" := z_BadNumber T
  have F_is_name : Fn P w K mg base 4 (He.ga K "is_name") ["word"] (ct_is_name K) := ok_is_name T
  have F_is_whole : Fn P w K mg base 4 (He.ga K "is_whole") ["value"] (ct_is_whole K) := ok_is_whole T
  have F_is_count : Fn P w K mg base 6 (He.ga K "is_count") ["value"] (ct_is_count K) := ok_is_count T F_is_whole
  have F_are_names : Fn P w K mg base 6 (He.ga K "are_names") ["things"] (ct_are_names K) := ok_are_names T F_is_name
  have F_check_lanes : Fn P w K mg base 6 (He.ga K "check_lanes") ["lanes"] (ct_check_lanes K) := ok_check_lanes T F_is_name Z_BadName
  have F_crossed : Fn P w K mg base 4 (He.ga K "crossed") ["one", "two"] (ct_crossed K) := ok_crossed T
  have F_read_tree : Fn P w K mg base 22 (He.ga K "read_tree") ["tree", "start"] (ct_read_tree 8 K) := ok_read_tree T F_crossed 8
  have F_Machine___init : Fn P w K mg base 4 (He.ma K (He.ga K "Machine") "__init__") ["self", "atoms", "firsts", "lasts", "pairs", "is_optional"] (ct_Machine___init K) := ok_Machine___init T
  have F_made_machine : Fn P w K mg base 24 (He.ga K "made_machine") ["tree"] (ct_made_machine K) := ok_made_machine T F_read_tree F_Machine___init
  have F_Machine_takes : Fn P w K mg base 4 (He.ma K (He.ga K "Machine") "takes") ["self", "atom", "lane"] (ct_Machine_takes K) := ok_Machine_takes T
  have F_Machine_is_behind : Fn P w K mg base 4 (He.ma K (He.ga K "Machine") "is_behind") ["self", "places", "atom"] (ct_Machine_is_behind K) := ok_Machine_is_behind T
  have F_Machine_after : Fn P w K mg base 6 (He.ma K (He.ga K "Machine") "after") ["self", "places", "lane"] (ct_Machine_after K) := ok_Machine_after T F_Machine_takes F_Machine_is_behind
  have F_Machine_started : Fn P w K mg base 6 (He.ma K (He.ga K "Machine") "started") ["self", "lane"] (ct_Machine_started K) := ok_Machine_started T F_Machine_takes
  have F_Machine_is_done : Fn P w K mg base 4 (He.ma K (He.ga K "Machine") "is_done") ["self", "places"] (ct_Machine_is_done K) := ok_Machine_is_done T
  have F_accepts : Fn P w K mg base 8 (He.ga K "accepts") ["machine", "lanes"] (ct_accepts K) := ok_accepts T F_Machine_after F_Machine_started F_Machine_is_done
  have F_all_names : Fn P w K mg base 4 (He.ga K "all_names") ["one", "two"] (ct_all_names K) := ok_all_names T
  have F_least_parting : Fn P w K mg base 8 (He.ga K "least_parting") ["one", "two", "is_one_sided"] (ct_least_parting K) := ok_least_parting T F_Machine_after F_Machine_started F_Machine_is_done F_all_names
  have F_joined : Fn P w K mg base 4 (He.ga K "joined") ["kind", "one", "two"] (ct_joined K) := ok_joined T
  have F_Pattern___init : Fn P w K mg base 4 (He.ma K (He.ga K "Pattern") "__init__") ["self", "tree"] (ct_Pattern___init K) := ok_Pattern___init T
  have F_Pattern___contains : Fn P w K mg base 26 (He.ma K (He.ga K "Pattern") "__contains__") ["self", "lanes"] (ct_Pattern___contains K) := ok_Pattern___contains T F_are_names F_made_machine F_accepts
  have F_Pattern___add : Fn P w K mg base 6 (He.ma K (He.ga K "Pattern") "__add__") ["self", "other"] (ct_Pattern___add K) := ok_Pattern___add T F_joined F_Pattern___init
  have F_Pattern___or : Fn P w K mg base 6 (He.ma K (He.ga K "Pattern") "__or__") ["self", "other"] (ct_Pattern___or K) := ok_Pattern___or T F_joined F_Pattern___init
  have F_Pattern___mul : Fn P w K mg base 8 (He.ma K (He.ga K "Pattern") "__mul__") ["self", "number"] (ct_Pattern___mul K) := ok_Pattern___mul T F_is_count F_joined F_Pattern___init Z_BadNumber
  have F_any_of : FnV P w K mg base 8 (He.ga K "any_of") (ct_any_of K) := ok_any_of T F_check_lanes F_Pattern___init
  have F_none_of : FnV P w K mg base 8 (He.ga K "none_of") (ct_none_of K) := ok_none_of T F_check_lanes F_Pattern___init
  have F_repeated : Fn P w K mg base 6 (He.ga K "repeated") ["pattern"] (ct_repeated K) := ok_repeated T F_Pattern___init
  have F_optional : Fn P w K mg base 6 (He.ga K "optional") ["pattern"] (ct_optional K) := ok_optional T F_Pattern___init
  have F_word_pattern : Fn P w K mg base 6 (He.ga K "word_pattern") ["names"] (ct_word_pattern K) := ok_word_pattern T F_Pattern___init
  have F_as_pattern : Fn P w K mg base 8 (He.ga K "as_pattern") ["thing"] (ct_as_pattern K) := ok_as_pattern T F_check_lanes F_word_pattern
  have F_machine_of : Fn P w K mg base 26 (He.ga K "machine_of") ["thing"] (ct_machine_of K) := ok_machine_of T F_made_machine F_as_pattern
  have F_within : Fn P w K mg base 28 (He.ga K "within") ["one", "two"] (ct_within K) := ok_within T F_least_parting F_machine_of
  have F_parting : Fn P w K mg base 28 (He.ga K "parting") ["one", "two"] (ct_parting K) := ok_parting T F_least_parting F_machine_of
  have F_law_cell : Fn P w K mg base 4 (He.ga K "_law_cell") ["_law_script", "_law_k"] (ct_law_cell K) := ok_law_cell T
  have F_law_pool : Fn P w K mg base 4 (He.ga K "_law_pool") ["_law_cell_here"] (ct_law_pool K) := ok_law_pool T
  have F_law_take : Fn P w K mg base 4 (He.ga K "_law_take") ["_law_pool_here", "_law_many"] (ct_law_take K) := ok_law_take T
  have F_law_names : Fn P w K mg base 6 (He.ga K "_law_names") ["_law_pool_here", "_law_many"] (ct_law_names K) := ok_law_names T F_law_take
  have F_law_tree : Fn P w K mg base 14 (He.ga K "_law_tree") ["_law_pool_here", "_law_lanes", "_law_depth"] (ct_law_tree 4 K) := ok_law_tree T F_law_take 4
  have F_law_atom : Fn P w K mg base 10 (He.ga K "_law_atom") ["_law_kind", "_law_names_here"] (ct_law_atom K) := ok_law_atom T F_any_of F_none_of
  have F_law_pattern : Fn P w K mg base 22 (He.ga K "_law_pattern") ["_law_tree_here"] (ct_law_pattern 5 K) := ok_law_pattern T F_Pattern___add F_Pattern___or F_repeated F_optional F_law_atom 5
  have F_law_takes : Fn P w K mg base 4 (He.ga K "_law_takes") ["_law_atom_here", "_law_lane"] (ct_law_takes K) := ok_law_takes T
  have F_law_distinct : Fn P w K mg base 4 (He.ga K "_law_distinct") ["_law_things"] (ct_law_distinct K) := ok_law_distinct T
  have F_law_ends_of : Fn P w K mg base 22 (He.ga K "_law_ends_of") ["_law_tree_here", "_law_lanes", "_law_start"] (ct_law_ends_of 8 K) := ok_law_ends_of T F_law_takes F_law_distinct 8
  have F_law_is_word : Fn P w K mg base 24 (He.ga K "_law_is_word") ["_law_tree_here", "_law_lanes"] (ct_law_is_word K) := ok_law_is_word T F_law_ends_of
  have F_law_all_words : Fn P w K mg base 4 (He.ga K "_law_all_words") ["_law_names_here", "_law_most"] (ct_law_all_words K) := ok_law_all_words T
  have F_law_second : Fn P w K mg base 16 (He.ga K "_law_second") ["_law_pool_here", "_law_names_here", "_law_one"] (ct_law_second K) := ok_law_second T F_law_take F_law_tree
  have F_law_only : Fn P w K mg base 26 (He.ga K "_law_only") ["_law_one", "_law_two", "_law_words"] (ct_law_only K) := ok_law_only T F_law_is_word
  have F_law_right : Fn P w K mg base 30 (He.ga K "_law_right") ["_law_one", "_law_two", "_law_words", "_law_longer"] (ct_law_right K) := ok_law_right T F_within F_parting F_law_pattern F_law_is_word F_law_only
  have F_law_far_parted : Fn P w K mg base 30 (He.ga K "_law_far_parted") ["_law_name", "_law_number"] (ct_law_far_parted K) := ok_law_far_parted T F_Pattern___contains F_Pattern___or F_Pattern___mul F_any_of F_none_of F_repeated F_optional F_within F_parting
  exact ok_law T F_within F_parting F_law_cell F_law_pool F_law_take F_law_names F_law_tree F_law_pattern F_law_is_word F_law_all_words F_law_second F_law_right F_law_far_parted F
end
end K14
open PySem PySem.W PySem.Calls PyProof.Rows
theorem PySem.Challenge.cw_alsoshown_k14_patterns_compared_holds : PySem.Challenge.rw_alsoshown_k14_patterns_compared.Holds := by
  w_on; o_law
  refine HandSHeadRun.head_any (r := K14.R) (q := K14.qv) (H := K14.hk) (ob := K14.ob) (M := 14000) (loose := K14.names) (d := HandSHeadRun.topDef K14.R.prog 71) (kwd := []) K14.ob_eq
    (by kernel_rfl) (fun s => by kernel_rfl) K14.run (by kernel_rfl) (by kernel_rfl) (by kernel_rfl) (by rfl) (by first | assumption | decide +kernel) (by decide +kernel) ⟨rfl, rfl, rfl, rfl, rfl, by decide +kernel⟩ ?hw ?hc
  case hw => w_witness2
  case hc =>
    refine DL.walk_D (l := PySem.Challenge.rw_alsoshown_k14_patterns_compared) (n := 63) (k := 32) (x := "_law_script") rfl (by decide) (by kernel_rfl) ⟨rfl, by decide, by decide⟩ ?F
    intro w mg fa h Y G hmg0
    obtain ⟨K, KX, c⟩ := Y
    have hmg : mg ("law" : PySem.Str) = some (.ref fa) := by
      have e : (HandSHeadRun.topDef K14.R.prog 71).name = ("law" : PySem.Str) := by kernel_rfl
      rw [← e]
      exact hmg0
    have T := K14.tx_of KX G c
    obtain ⟨fd, F⟩ := T.d_law
    have e := hmg.symm.trans T.g_law.1
    cases e
    exact ⟨K, K14.ct_law K, fd, KX, fun z ns hs => ⟨z, rfl, ns, hs, rfl, rfl⟩, fun s v => L2.FunD.bindsA (ps := ["_law_script"]) F (fun _ _ _ _ _ _ us hl => match us, hl with | [_], _ => rfl) s [v] rfl, fun base => K14.all_ok T F⟩


