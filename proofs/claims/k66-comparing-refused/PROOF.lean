import PyProof.Rows.All
import Wide.All
import OpenK.AllK
import Wide.FinOn
import HandS.Base
import HandS.Call
import HandS.List
import HandS.Comp
import HandS.Dict
import HandS.Iter
import HandS.Text
import HandS.Evl
import HandS.TupAny
import KE.KeyNested
import HandS.Wide
import HandS.Steps
import HandS.Exc
import HandS.Words
import HandS.WordsExc
import PyProof.NeData
import HandS.OwnEq
import HandS.Property
import HandS.IsInst
import HandS.ExcInit
import HandS.Defaults
import KE.KOpsOwn
import PyProof.InstNe
import HandS.Head0
import HandS.ExcField
import HandS.ExcOwn
import HandS.Codes
import HandS.Conv
import HandS.Style
import KE.KStateDown
import HandS.Head1
import HandS.Head2
import HandS.HeadEnd
import HandS.HeadHook1
import HandS.HeadHook2
import HandS.EndBits
import HandS.TupMul
import KE.DataCmp
import KE.DatumOrd
import HandS.DictComp
import HandS.RaiseMore
import KE.DataEq
import HandS.Finally
import KE.GoesNew
import KE.GoesMore
import OpenK.KMeth
import HandS.Small
import HandS.TupSets
import HandS.Star
import PyProof.Rows.TupDisplay
import KE.KDictCopyH
import PyProof.FactsAll.dict_2
import KE.GoesDict
import PySem.Challenge.RW_alsoshown_k66_comparing_refused
set_option Elab.async false
set_option linter.all false
set_option maxRecDepth 100000
set_option maxHeartbeats 4000000
/-! DA: a logic of data over the readings: frozen data, views, cells (own work). -/
namespace DL
open PySem L2

/-- data -/
inductive D where
  | non | bl (b : Bool) | int (i : Int) | str (s : Str)
  | tup (xs : List D) | lst (xs : List D) | dic (kvs : List (Key × D)) | dit (kvs : List (List Key × D))
  | ins (C : Addr) (fs : List (Str × D)) | ty (n : String) | adr (a : Addr)
  | din (w : World) (kvs : List (NestedKey × D))

/-! ### dicts whose keys are tuples of any depth -/
/-- an entry as it lies in the dict's object -/
def entN (w : World) (q : NestedKey × Addr × Value) : DictEntry := ⟨q.1.hash w, .ref q.2.1, q.2.2⟩
/-- the dict at a: its keys (each at its address), its values -/
def DnO (w : World) (a : Addr) (xs : List (NestedKey × Addr × V)) : HO := .ext fun h => xs.length ≤ sizeLine ∧ (a == sysModules) = false ∧ ∃ qs : List (NestedKey × Addr × Value),
  Paired (fun p q => p.1 = q.1 ∧ p.2.1 = q.2.1 ∧ RelV p.2.2 q.2.2) xs qs ∧ ∃ o es ep, h.get? a = some o ∧ o.ExactDict ∧ o.data = .dict es ep ∧ es.toList = qs.map (entN w) ∧ (qs.map (·.1)).Nodup
mutual
/-- a thing that is the key -/
def RkN (K : PySem.W.Frag) (F : Hp) : NestedKey → V → Prop
  | .none, v => v = .non
  | .num i, v => v = .int i
  | .text s, v => v = .str s
  | .tup ks, v => ∃ a xs, v = .ref a ∧ SqT K F a xs ∧ RkL K F ks xs
def RkL (K : PySem.W.Frag) (F : Hp) : List NestedKey → List V → Prop
  | [], xs => xs = []
  | k :: ks, xs => ∃ x ys, xs = x :: ys ∧ RkN K F k x ∧ RkL K F ks ys
end

mutual
def Rp (K : PySem.W.Frag) (F : Hp) : D → V → Prop
  | .non, v => v = .non
  | .bl b, v => v = .bl b
  | .int i, v => v = .int i
  | .str s, v => v = .str s
  | .ty n, v => v = .ty n
  | .adr a, v => v = .ref a
  | .tup ds, v => ∃ a xs, v = .ref a ∧ SqT K F a xs ∧ RpL K F ds xs
  | .lst ds, v => ∃ a xs, v = .ref a ∧ Rd F a (.lst xs) ∧ RpL K F ds xs
  | .dic ds, v => ∃ a xs, v = .ref a ∧ Rd F a (.dK xs) ∧ RpK K F ds xs
  | .dit ds, v => ∃ a xs, v = .ref a ∧ Rd F a (.dT xs) ∧ RpT K F ds xs
  | .ins C ds, v => ∃ a dx xs, v = .ref a ∧ Rd F a (.ins C dx xs) ∧ RpF K F ds xs
  | .din w ds, v => ∃ a xs, v = .ref a ∧ Rd F a (DnO w a xs) ∧ RpN K F ds xs
def RpN (K : PySem.W.Frag) (F : Hp) : List (NestedKey × D) → List (NestedKey × Addr × V) → Prop
  | [], xs => xs = []
  | (k, d) :: ds, xs => ∃ b x ys, xs = (k, b, x) :: ys ∧ (RkN K F k (.ref b) ∧ k.depth ≤ 8) ∧ Rp K F d x ∧ RpN K F ds ys
def RpL (K : PySem.W.Frag) (F : Hp) : List D → List V → Prop
  | [], xs => xs = []
  | d :: ds, xs => ∃ x ys, xs = x :: ys ∧ Rp K F d x ∧ RpL K F ds ys
def RpK (K : PySem.W.Frag) (F : Hp) : List (Key × D) → List (Key × V) → Prop
  | [], xs => xs = []
  | (k, d) :: ds, xs => ∃ x ys, xs = (k, x) :: ys ∧ Rp K F d x ∧ RpK K F ds ys
def RpT (K : PySem.W.Frag) (F : Hp) : List (List Key × D) → List (List Key × V) → Prop
  | [], xs => xs = []
  | (k, d) :: ds, xs => ∃ x ys, xs = (k, x) :: ys ∧ Rp K F d x ∧ RpT K F ds ys
def RpF (K : PySem.W.Frag) (F : Hp) : List (Str × D) → List (Str × V) → Prop
  | [], xs => xs = []
  | (k, d) :: ds, xs => ∃ x ys, xs = (k, x) :: ys ∧ Rp K F d x ∧ RpF K F ds ys
end


def isfz : HO → Bool
  | .frz _ _ => true
  | _ => false
/-- nothing of F is locked -/
def Nz (F : Hp) : Prop := ∀ a u, F a = some u → isfz u = false
/-- what a loop may lock -/
def lk : HO → Bool
  | .dK _ => true
  | .dT _ => true
  | .lst _ => true
  | .ext _ => true
  | _ => false
/-- all that F says may be read in H -/
def Exz (F H : Hp) : Prop := ∀ a u, F a = some u → H a = some u ∨ (lk u = true ∧ ∃ o, H a = some (.frz o u))
theorem exz_rd {F H : Hp} (e : Exz F H) {a : Addr} {u : HO} (h : F a = some u) : Rd H a u := by
  rcases e a u h with q | ⟨_, o, q⟩
  · exact .inl q
  · exact .inr ⟨o, q⟩
/-- what is never locked stands as it is -/
theorem Exz.at {F H : Hp} (e : Exz F H) {a : Addr} {u : HO} (h : F a = some u) (k : lk u = false) : H a = some u := by
  rcases e a u h with q | ⟨k2, _⟩
  · exact q
  · rw [k] at k2
    cases k2
/-- all of B stands in H as it is -/
def Sub (B H : Hp) : Prop := ∀ a o, B a = some o → H a = some o
theorem Sub.refl (H : Hp) : Sub H H := fun _ _ h => h
theorem Sub.trans {F G H : Hp} (a : Sub F G) (b : Sub G H) : Sub F H := fun x u h => b x u (a x u h)
theorem Sub.exz {B H : Hp} (e : Sub B H) : Exz B H := fun a u h => .inl (e _ _ h)
theorem Sub.new {H : Hp} {p : Addr} {o : HO} (h : H p = none) : Sub H (upd H p o) := fun a u e => by
  rw [upd_ne (ne_of_none e h)]
  exact e
theorem Sub.free {F H : Hp} (e : Sub F H) {a : Addr} (h : H a = none) : F a = none := by
  cases q : F a with
  | none => rfl
  | some o =>
    rw [e a o q] at h
    cases h
theorem rd_ne {H : Hp} {a : Addr} {u : HO} (h : Rd H a u) : H a ≠ none := by
  rcases h with h | ⟨o, h⟩ <;> rw [h] <;> exact fun q => by cases q
theorem Exz.free {F H : Hp} (e : Exz F H) {a : Addr} (h : H a = none) : F a = none := by
  cases q : F a with
  | none => rfl
  | some o => exact absurd h (rd_ne (exz_rd e q))
theorem Exz.rd {F H : Hp} (e : Exz F H) (n : Nz F) {a : Addr} {u : HO} (h : Rd F a u) : Rd H a u := by
  rcases h with h | ⟨o, h⟩
  · exact exz_rd e h
  · have := n a _ h
    cases this
theorem Exz.sub {F G H : Hp} (a : Exz F G) (b : Sub G H) : Exz F H := fun x u h => by
  rcases a x u h with q | ⟨k, o, q⟩
  · exact .inl (b _ _ q)
  · exact .inr ⟨k, o, b _ _ q⟩
theorem sqT_mono {K : PySem.W.Frag} {F H : Hp} {a : Addr} {xs : List V} (e : Exz F H) (n : Nz F) (h : SqT K F a xs) : SqT K H a xs := by
  rcases h with h | h
  · exact .inl (e.rd n h)
  · exact .inr h
section
variable {K : PySem.W.Frag} {F G : Hp}
mutual
theorem RkN.mono (e : Exz F G) (n : Nz F) : ∀ (k : NestedKey) (v : V), RkN K F k v → RkN K G k v
  | .none, _, h => h
  | .num _, _, h => h
  | .text _, _, h => h
  | .tup ks, v, h => by
    obtain ⟨a, xs, e1, h1, h2⟩ := h
    exact ⟨a, xs, e1, sqT_mono e n h1, RkL.mono e n ks xs h2⟩
theorem RkL.mono (e : Exz F G) (n : Nz F) : ∀ (ks : List NestedKey) (xs : List V), RkL K F ks xs → RkL K G ks xs
  | [], _, h => h
  | k :: ks, xs, h => by
    obtain ⟨x, ys, e1, h1, h2⟩ := h
    exact ⟨x, ys, e1, RkN.mono e n k x h1, RkL.mono e n ks ys h2⟩
end
mutual
theorem Rp.mono (e : Exz F G) (n : Nz F) : ∀ (d : D) (v : V), Rp K F d v → Rp K G d v
  | .non, _, h => h
  | .bl _, _, h => h
  | .int _, _, h => h
  | .str _, _, h => h
  | .ty _, _, h => h
  | .adr _, _, h => h
  | .tup ds, v, h => by
    obtain ⟨a, xs, e1, h1, h2⟩ := h
    exact ⟨a, xs, e1, sqT_mono e n h1, RpL.mono e n ds xs h2⟩
  | .lst ds, v, h => by
    obtain ⟨a, xs, e1, h1, h2⟩ := h
    exact ⟨a, xs, e1, e.rd n h1, RpL.mono e n ds xs h2⟩
  | .dic ds, v, h => by
    obtain ⟨a, xs, e1, h1, h2⟩ := h
    exact ⟨a, xs, e1, e.rd n h1, RpK.mono e n ds xs h2⟩
  | .dit ds, v, h => by
    obtain ⟨a, xs, e1, h1, h2⟩ := h
    exact ⟨a, xs, e1, e.rd n h1, RpT.mono e n ds xs h2⟩
  | .ins C ds, v, h => by
    obtain ⟨a, dx, xs, e1, h1, h2⟩ := h
    exact ⟨a, dx, xs, e1, e.rd n h1, RpF.mono e n ds xs h2⟩
  | .din w ds, v, h => by
    obtain ⟨a, xs, e1, h1, h2⟩ := h
    exact ⟨a, xs, e1, e.rd n h1, RpN.mono e n ds xs h2⟩
theorem RpN.mono (e : Exz F G) (n : Nz F) : ∀ (ds : List (NestedKey × D)) (xs : List (NestedKey × Addr × V)), RpN K F ds xs → RpN K G ds xs
  | [], _, h => h
  | (k, d) :: ds, xs, h => by
    obtain ⟨b, x, ys, e1, h0, h1, h2⟩ := h
    exact ⟨b, x, ys, e1, ⟨RkN.mono e n k _ h0.1, h0.2⟩, Rp.mono e n d x h1, RpN.mono e n ds ys h2⟩
theorem RpL.mono (e : Exz F G) (n : Nz F) : ∀ (ds : List D) (xs : List V), RpL K F ds xs → RpL K G ds xs
  | [], _, h => h
  | d :: ds, xs, h => by
    obtain ⟨x, ys, e1, h1, h2⟩ := h
    exact ⟨x, ys, e1, Rp.mono e n d x h1, RpL.mono e n ds ys h2⟩
theorem RpK.mono (e : Exz F G) (n : Nz F) : ∀ (ds : List (Key × D)) (xs : List (Key × V)), RpK K F ds xs → RpK K G ds xs
  | [], _, h => h
  | (k, d) :: ds, xs, h => by
    obtain ⟨x, ys, e1, h1, h2⟩ := h
    exact ⟨x, ys, e1, Rp.mono e n d x h1, RpK.mono e n ds ys h2⟩
theorem RpT.mono (e : Exz F G) (n : Nz F) : ∀ (ds : List (List Key × D)) (xs : List (List Key × V)), RpT K F ds xs → RpT K G ds xs
  | [], _, h => h
  | (k, d) :: ds, xs, h => by
    obtain ⟨x, ys, e1, h1, h2⟩ := h
    exact ⟨x, ys, e1, Rp.mono e n d x h1, RpT.mono e n ds ys h2⟩
theorem RpF.mono (e : Exz F G) (n : Nz F) : ∀ (ds : List (Str × D)) (xs : List (Str × V)), RpF K F ds xs → RpF K G ds xs
  | [], _, h => h
  | (k, d) :: ds, xs, h => by
    obtain ⟨x, ys, e1, h1, h2⟩ := h
    exact ⟨x, ys, e1, Rp.mono e n d x h1, RpF.mono e n ds ys h2⟩
end
end

/-! ### worlds -/
/-- what may be read of B and F together -/
def uni (B F : Hp) : Hp := fun a => match F a with
  | some o => some o
  | none => match B a with
    | some (.frz _ u) => if lk u then some u else none
    | x => x
inductive W where
  | val (d : D) | vw (d : D)
def WOk (K : PySem.W.Frag) (B F : Hp) (v : V) : W → Prop
  | .val d => Rp K F d v
  | .vw d => Rp K (uni B F) d v
inductive Nd where
  | lst (ds : List D) | dic (ds : List (Key × D)) | dit (ds : List (List Key × D)) | ldic (o : Obj) (xs : List (Key × V)) (ds : List (Key × D)) | ins (C : Addr) (ds : List (Str × D)) | xd (ds : List (Str × D))
  | din (w : World) (ds : List (NestedKey × D))
def NdOk (K : PySem.W.Frag) (F H : Hp) (a : Addr) : Nd → Prop
  | .lst ds => ∃ xs, H a = some (.lst xs) ∧ RpL K F ds xs
  | .dic ds => ∃ xs, H a = some (.dK xs) ∧ RpK K F ds xs
  | .dit ds => ∃ xs, H a = some (.dT xs) ∧ RpT K F ds xs
  | .ldic o xs ds => H a = some (.frz o (.dK xs)) ∧ RpK K F ds xs
  | .ins C ds => ∃ dx xs, H a = some (.ins C dx xs) ∧ RpF K F ds xs
  | .xd ds => ∃ xs, H a = some (.xd xs) ∧ RpF K F ds xs
  | .din w ds => ∃ xs, H a = some (DnO w a xs) ∧ RpN K F ds xs
abbrev Cells := List (Addr × Nd)
/-- F has grown, off B -/
structure Gr (B F F' : Hp) : Prop where
  sub : Sub F F'
  off : ∀ a, F a = none → B a ≠ none → F' a = none
theorem Gr.refl (B F : Hp) : Gr B F F := ⟨Sub.refl F, fun _ h _ => h⟩
theorem Gr.trans {B F G H : Hp} (a : Gr B F G) (b : Gr B G H) : Gr B F H := ⟨a.sub.trans b.sub, fun x h n => b.off x (a.off x h n) n⟩
/-- the state by data, over the frozen F: the slots, the cells, what is held on the way -/
structure EnF (K : PySem.W.Frag) (B F : Hp) (ro : List (Option W)) (ka : Cells) (ta : List (V × W)) (sg : L2.St) (H : Hp) : Prop where
  nz : Nz F
  fz : Exz F H
  fr : Sub B H
  nd : (ka.map (·.1)).Nodup
  ce : ∀ p ∈ ka, F p.1 = none ∧ B p.1 = none ∧ NdOk K F H p.1 p.2
  ln : sg.length = ro.length
  sl : ∀ (i : Nat) (w : W), ro[i]? = some (some w) → ∃ v, sg[i]? = some (some v) ∧ WOk K B F v w
  tm : ∀ p ∈ ta, WOk K B F p.1 p.2
def En (K : PySem.W.Frag) (B F0 : Hp) (ro : List (Option W)) (ka : Cells) (ta : List (V × W)) (sg : L2.St) (H : Hp) : Prop :=
  ∃ F, Gr B F0 F ∧ EnF K B F ro ka ta sg H

theorem uni_nz {B F : Hp} (n : Nz F) : Nz (uni B F) := fun a u h => by
  unfold uni at h
  split at h
  · rename_i o q
    exact n a u (q.trans h)
  · split at h
    · rename_i ob x q
      split at h
      · rename_i hx
        cases h
        cases u <;> first | rfl | cases hx
      · cases h
    · rename_i x q
      cases u with
      | frz ob z => exact absurd h (q ob z)
      | _ => rfl
theorem uni_exz {B F H : Hp} (fz : Exz F H) (fr : Sub B H) : Exz (uni B F) H := fun a u h => by
  unfold uni at h
  split at h
  · rename_i o q
    exact fz a u (q.trans h)
  · split at h
    · rename_i ob x q
      split at h
      · rename_i hx
        cases h
        exact .inr ⟨hx, ob, fr _ _ q⟩
      · cases h
    · exact .inl (fr _ _ h)
theorem uni_of {B F : Hp} {a : Addr} {u : HO} (h : F a = some u) : uni B F a = some u := by
  unfold uni
  rw [h]
theorem uni_sub {B F : Hp} : Sub F (uni B F) := fun _ _ h => uni_of h
theorem uni_gr {B F F' : Hp} (g : Gr B F F') : Sub (uni B F) (uni B F') := fun a u h => by
  unfold uni at h ⊢
  cases q : F a with
  | some o =>
    rw [q] at h
    rw [g.sub a o q]
    exact h
  | none =>
    rw [q] at h
    have hb : B a ≠ none := fun z => by
      rw [z] at h
      cases h
    rw [g.off a q hb]
    exact h
theorem wok_gr {K : PySem.W.Frag} {B F F' : Hp} (n : Nz F) (g : Gr B F F') {v : V} {w : W} (h : WOk K B F v w) : WOk K B F' v w := by
  cases w with
  | val d => exact Rp.mono g.sub.exz n d v h
  | vw d => exact Rp.mono (uni_gr g).exz (uni_nz n) d v h
/-- frozen data may be viewed -/
theorem wok_vw {K : PySem.W.Frag} {B F : Hp} (n : Nz F) {v : V} {d : D} (h : WOk K B F v (.val d)) : WOk K B F v (.vw d) := Rp.mono uni_sub.exz n d v h
theorem ndok_gr {K : PySem.W.Frag} {B F F' H : Hp} (n : Nz F) (g : Gr B F F') {a : Addr} {x : Nd} (h : NdOk K F H a x) : NdOk K F' H a x := by
  cases x with
  | lst ds => obtain ⟨xs, e, r⟩ := h; exact ⟨xs, e, RpL.mono g.sub.exz n _ _ r⟩
  | dic ds => obtain ⟨xs, e, r⟩ := h; exact ⟨xs, e, RpK.mono g.sub.exz n _ _ r⟩
  | dit ds => obtain ⟨xs, e, r⟩ := h; exact ⟨xs, e, RpT.mono g.sub.exz n _ _ r⟩
  | ldic o xs ds => obtain ⟨e, r⟩ := h; exact ⟨e, RpK.mono g.sub.exz n _ _ r⟩
  | ins C ds => obtain ⟨dx, xs, e, r⟩ := h; exact ⟨dx, xs, e, RpF.mono g.sub.exz n _ _ r⟩
  | xd ds => obtain ⟨xs, e, r⟩ := h; exact ⟨xs, e, RpF.mono g.sub.exz n _ _ r⟩
  | din w ds => obtain ⟨xs, e, r⟩ := h; exact ⟨xs, e, RpN.mono g.sub.exz n _ _ r⟩
/-- the address where a node stands is taken -/
theorem ndok_ne {K : PySem.W.Frag} {F H : Hp} {a : Addr} {x : Nd} (h : NdOk K F H a x) : H a ≠ none := by
  cases x with
  | lst ds => obtain ⟨xs, e, r⟩ := h; rw [e]; exact fun q => by cases q
  | dic ds => obtain ⟨xs, e, r⟩ := h; rw [e]; exact fun q => by cases q
  | dit ds => obtain ⟨xs, e, r⟩ := h; rw [e]; exact fun q => by cases q
  | ldic o xs ds => obtain ⟨e, r⟩ := h; rw [e]; exact fun q => by cases q
  | ins C ds => obtain ⟨dx, xs, e, r⟩ := h; rw [e]; exact fun q => by cases q
  | xd ds => obtain ⟨xs, e, r⟩ := h; rw [e]; exact fun q => by cases q
  | din w ds => obtain ⟨xs, e, r⟩ := h; rw [e]; exact fun q => by cases q
theorem ndok_at {K : PySem.W.Frag} {F H H' : Hp} {a : Addr} {x : Nd} (e : H' a = H a) (h : NdOk K F H a x) : NdOk K F H' a x := by
  cases x with
  | lst ds => obtain ⟨xs, q, r⟩ := h; exact ⟨xs, e.trans q, r⟩
  | dic ds => obtain ⟨xs, q, r⟩ := h; exact ⟨xs, e.trans q, r⟩
  | dit ds => obtain ⟨xs, q, r⟩ := h; exact ⟨xs, e.trans q, r⟩
  | ldic o xs ds => obtain ⟨q, r⟩ := h; exact ⟨e.trans q, r⟩
  | ins C ds => obtain ⟨dx, xs, q, r⟩ := h; exact ⟨dx, xs, e.trans q, r⟩
  | xd ds => obtain ⟨xs, q, r⟩ := h; exact ⟨xs, e.trans q, r⟩
  | din w ds => obtain ⟨xs, q, r⟩ := h; exact ⟨xs, e.trans q, r⟩
section
variable {K : PySem.W.Frag} {B F F' F0 : Hp} {ro : List (Option W)} {ka : Cells} {ta : List (V × W)} {sg : L2.St} {H : Hp}
/-- a new object is laid as frozen data -/
theorem EnF.lay (e : EnF K B F ro ka ta sg H) {p : Addr} {o : HO} (hp : H p = none) (hn : isfz o = false) : EnF K B (upd F p o) ro ka ta sg (upd H p o) ∧ Gr B F (upd F p o) := by
  have fp : F p = none := e.fz.free hp
  have bp : B p = none := e.fr.free hp
  have g : Gr B F (upd F p o) := ⟨Sub.new fp, fun a h1 h2 => by
    have ne : a ≠ p := fun q => h2 (q ▸ bp)
    rw [upd_ne ne]
    exact h1⟩
  refine ⟨⟨fun a u h => ?_, fun a u h => ?_, fun a u h => ?_, e.nd, fun q hq => ?_, e.ln, fun i w h => ?_, fun q hq => wok_gr e.nz g (e.tm q hq)⟩, g⟩
  · by_cases ha : a = p
    · subst ha; rw [upd_same] at h; cases h; exact hn
    · rw [upd_ne ha] at h; exact e.nz a u h
  · by_cases ha : a = p
    · subst ha; rw [upd_same] at h; cases h; exact .inl upd_same
    · rw [upd_ne ha] at h; exact e.fz.sub (Sub.new hp) a u h
  · have ha : a ≠ p := ne_of_none h bp
    rw [upd_ne ha]; exact e.fr a u h
  · obtain ⟨h1, h2, h3⟩ := e.ce q hq
    have nq : q.1 ≠ p := fun z => ndok_ne h3 (z ▸ hp)
    refine ⟨by rw [upd_ne nq]; exact h1, h2, ndok_at (upd_ne nq) (ndok_gr e.nz g h3)⟩
  · obtain ⟨v, h1, h2⟩ := e.sl i w h
    exact ⟨v, h1, wok_gr e.nz g h2⟩
/-- a new object is laid as a cell -/
theorem EnF.cell (e : EnF K B F ro ka ta sg H) {p : Addr} {o : HO} (hp : H p = none) {n : Nd} (hn : NdOk K F (upd H p o) p n) : EnF K B F ro (ka ++ [(p, n)]) ta sg (upd H p o) := by
  refine ⟨e.nz, e.fz.sub (Sub.new hp), e.fr.trans (Sub.new hp), ?_, fun q hq => ?_, e.ln, e.sl, e.tm⟩
  · rw [List.map_append, List.nodup_append]
    refine ⟨e.nd, by simp, fun a ha b hb => ?_⟩
    obtain ⟨q, hq, rfl⟩ := List.mem_map.mp ha
    simp at hb
    subst hb
    exact fun z => ndok_ne (e.ce q hq).2.2 (z ▸ hp)
  · rcases List.mem_append.mp hq with hq | hq
    · obtain ⟨h1, h2, h3⟩ := e.ce q hq
      have nq : q.1 ≠ p := fun z => ndok_ne h3 (z ▸ hp)
      exact ⟨h1, h2, ndok_at (upd_ne nq) h3⟩
    · simp at hq
      subst hq
      exact ⟨e.fz.free hp, e.fr.free hp, hn⟩
theorem EnF.push (e : EnF K B F ro ka ta sg H) {v : V} {w : W} (h : WOk K B F v w) : EnF K B F ro ka ((v, w) :: ta) sg H :=
  ⟨e.nz, e.fz, e.fr, e.nd, e.ce, e.ln, e.sl, fun p hp => (List.mem_cons.mp hp).elim (fun z => z ▸ h) (e.tm p)⟩
theorem EnF.held (e : EnF K B F ro ka ta sg H) {ta' : List (V × W)} (h : ∀ p ∈ ta', p ∈ ta) : EnF K B F ro ka ta' sg H :=
  ⟨e.nz, e.fz, e.fr, e.nd, e.ce, e.ln, e.sl, fun p hp => e.tm p (h p hp)⟩
/-- a slot is set -/
theorem EnF.set (e : EnF K B F ro ka ta sg H) {v : V} {w : W} (h : WOk K B F v w) (i : Nat) : EnF K B F (ro.set i (some w)) ka ta (sg.set i (some v)) H := by
  refine ⟨e.nz, e.fz, e.fr, e.nd, e.ce, by rw [List.length_set, List.length_set, e.ln], fun j w' hj => ?_, e.tm⟩
  by_cases hij : i = j
  · subst hij
    have hi : i < ro.length := by
      have := (List.getElem?_eq_some_iff.mp hj).1
      rwa [List.length_set] at this
    rw [List.getElem?_set_self hi] at hj
    cases hj
    exact ⟨v, by rw [List.getElem?_set_self (by rw [e.ln]; exact hi)], h⟩
  · rw [List.getElem?_set_ne hij] at hj ⊢
    exact e.sl j w' hj
/-- another frame: its slots -/
theorem EnF.frame (e : EnF K B F ro ka ta sg H) {ro' : List (Option W)} {sg' : L2.St} (hl : sg'.length = ro'.length) (h : ∀ (i : Nat) w, ro'[i]? = some (some w) → ∃ v, sg'[i]? = some (some v) ∧ WOk K B F v w) : EnF K B F ro' ka ta sg' H :=
  ⟨e.nz, e.fz, e.fr, e.nd, e.ce, hl, h, e.tm⟩
/-- cells in another order, some forgotten -/
theorem EnF.cells (e : EnF K B F ro ka ta sg H) {ka' : Cells} (hs : ka'.Sublist ka) : EnF K B F ro ka' ta sg H :=
  ⟨e.nz, e.fz, e.fr, (hs.map _).nodup e.nd, fun p hp => e.ce p (hs.subset hp), e.ln, e.sl, e.tm⟩
theorem EnF.perm (e : EnF K B F ro ka ta sg H) {ka' : Cells} (hs : ka'.Perm ka) : EnF K B F ro ka' ta sg H :=
  ⟨e.nz, e.fz, e.fr, (hs.map _).nodup_iff.mpr e.nd, fun p hp => e.ce p (hs.subset hp), e.ln, e.sl, e.tm⟩
/-- a cell is written -/
theorem EnF.write (e : EnF K B F ro ka ta sg H) {j : Nat} {p : Addr} {n n' : Nd} {o : HO} (hj : ka[j]? = some (p, n)) (hn : NdOk K F (upd H p o) p n') : EnF K B F ro (ka.set j (p, n')) ta sg (upd H p o) := by
  have hjl := (List.getElem?_eq_some_iff.mp hj).1
  have hm : (p, n) ∈ ka := List.mem_of_getElem? hj
  obtain ⟨fp, bp, _⟩ := e.ce _ hm
  have em : (ka.set j (p, n')).map (·.1) = ka.map (·.1) := by
    apply List.ext_getElem?
    intro i
    rw [List.getElem?_map, List.getElem?_map]
    by_cases hij : j = i
    · subst hij
      rw [List.getElem?_set_self hjl, hj]
      rfl
    · rw [List.getElem?_set_ne hij]
  refine ⟨e.nz, fun a u h => ?_, fun a u h => ?_, by rw [em]; exact e.nd, fun q hq => ?_, e.ln, e.sl, e.tm⟩
  · have ha : a ≠ p := ne_of_none h fp
    rcases e.fz a u h with q | ⟨k, ob, q⟩
    · exact .inl (by rw [upd_ne ha]; exact q)
    · exact .inr ⟨k, ob, by rw [upd_ne ha]; exact q⟩
  · have ha : a ≠ p := ne_of_none h bp
    rw [upd_ne ha]
    exact e.fr a u h
  · obtain ⟨i, hi⟩ := List.getElem?_of_mem hq
    by_cases hij : j = i
    · subst hij
      rw [List.getElem?_set_self hjl] at hi
      cases hi
      exact ⟨fp, bp, hn⟩
    · rw [List.getElem?_set_ne hij] at hi
      obtain ⟨h1, h2, h3⟩ := e.ce q (List.mem_of_getElem? hi)
      have nq : q.1 ≠ p := fun z => by
        have h4 : (ka.map (·.1))[i]? = some p := by rw [List.getElem?_map, hi]; simp [z]
        have h5 : (ka.map (·.1))[j]? = some p := by rw [List.getElem?_map, hj]; rfl
        obtain ⟨l1, e1⟩ := List.getElem?_eq_some_iff.mp h4
        obtain ⟨l2, e2⟩ := List.getElem?_eq_some_iff.mp h5
        exact hij ((List.getElem_inj e.nd).mp (e2.trans e1.symm))
      exact ⟨h1, h2, ndok_at (upd_ne nq) h3⟩
end
end DL

/-! DB: what expressions evaluate to, by data (own work). -/
namespace DL
open PySem L2

/-! ### judgements -/
section
variable (K : PySem.W.Frag)
abbrev Ro := List (Option W)
def EvD (te : TE) (ro : Ro) (ka : Cells) (w : W) (ka' : Cells) : Prop := ∀ B F0 ta sg H (Q : VK), En K B F0 ro ka ta sg H → (∀ v H', En K B F0 ro ka' ((v, w) :: ta) sg H' → Q v H') → te sg H Q
/-- a new cell -/
def EvN (te : TE) (ro : Ro) (ka : Cells) (n : Nd) (ka' : Cells) : Prop := ∀ B F0 ta sg H (Q : VK), En K B F0 ro ka ta sg H → (∀ a H', En K B F0 ro (ka' ++ [(a, n)]) ta sg H' → Q (.ref a) H') → te sg H Q
def EvT (tt : TT) (ro : Ro) (ka : Cells) (b : Bool) (ka' : Cells) : Prop := ∀ B F0 ta sg H (Q : Bool → Hp → Prop), En K B F0 ro ka ta sg H → (∀ H', En K B F0 ro ka' ta sg H' → Q b H') → tt sg H Q
def EvA (tr : TA) (ro : Ro) (ka : Cells) (ws : List W) (ka' : Cells) : Prop := ∀ B F0 ta sg H (Q : List V → Hp → Prop), En K B F0 ro ka ta sg H → (∀ vs H', vs.length = ws.length → En K B F0 ro ka' (vs.zip ws ++ ta) sg H' → Q vs H') → tr sg H Q
/-- a two-place operation, a one-place one -/
def RvD (r : R2) (ka : Cells) (x y z : W) : Prop := ∀ B F0 ro ta sg H u v (Q : VK), En K B F0 ro ka ta sg H → (u, x) ∈ ta → (v, y) ∈ ta → (∀ t H', En K B F0 ro ka ((t, z) :: ta) sg H' → Q t H') → r u v H Q
def RvN (r : R2) (ka : Cells) (x y : W) (n : Nd) : Prop := ∀ B F0 ro ta sg H u v (Q : VK), En K B F0 ro ka ta sg H → (u, x) ∈ ta → (v, y) ∈ ta → (∀ a H', En K B F0 ro (ka ++ [(a, n)]) ta sg H' → Q (.ref a) H') → r u v H Q
/-- a call by values -/
def RcD (r : List V → Hp → VK → Prop) (ka : Cells) (xs : List W) (z : W) : Prop := ∀ B F0 ro ta sg H us (Q : VK), En K B F0 ro ka ta sg H → us.length = xs.length → (∀ p ∈ us.zip xs, p ∈ ta) → (∀ t H', En K B F0 ro ka ((t, z) :: ta) sg H' → Q t H') → r us H Q
def RcN (r : List V → Hp → VK → Prop) (ka : Cells) (xs : List W) (n : Nd) : Prop := ∀ B F0 ro ta sg H us (Q : VK), En K B F0 ro ka ta sg H → us.length = xs.length → (∀ p ∈ us.zip xs, p ∈ ta) → (∀ a H', En K B F0 ro (ka ++ [(a, n)]) ta sg H' → Q (.ref a) H') → r us H Q
/-- a part of a slice -/
def EvO (to : TO) (ro : Ro) (ka : Cells) (o : Option Int) (ka' : Cells) : Prop := ∀ B F0 ta sg H (Q : Option Int → Hp → Prop), En K B F0 ro ka ta sg H → (∀ H', En K B F0 ro ka' ta sg H' → Q o H') → to sg H Q
end

section
variable {K : PySem.W.Frag} {B F0 : Hp} {ro : Ro} {ka k1 k2 k3 : Cells} {ta : List (V × W)} {sg : L2.St} {H : Hp} {te tf tg : TE} {tt tu : TT} {tr : TA} {w x y z : W} {n : Nd} {r : R2}
theorem En.held (e : En K B F0 ro ka ta sg H) {ta' : List (V × W)} (h : ∀ p ∈ ta', p ∈ ta) : En K B F0 ro ka ta' sg H :=
  let ⟨F, g, q⟩ := e
  ⟨F, g, q.held h⟩
theorem En.pop {p : V × W} (e : En K B F0 ro ka (p :: ta) sg H) : En K B F0 ro ka ta sg H := e.held fun _ h => List.mem_cons_of_mem _ h
/-- what data says of its value -/
theorem En.push_imm (e : En K B F0 ro ka ta sg H) {v : V} {w : W} (h : ∀ F, WOk K B F v w) : En K B F0 ro ka ((v, w) :: ta) sg H :=
  let ⟨F, g, q⟩ := e
  ⟨F, g, q.push (h F)⟩
theorem En.tm_int (e : En K B F0 ro ka ta sg H) {v : V} {i : Int} (h : (v, W.val (.int i)) ∈ ta) : v = .int i := let ⟨_, _, q⟩ := e; q.tm _ h
theorem En.tm_str (e : En K B F0 ro ka ta sg H) {v : V} {i : Str} (h : (v, W.val (.str i)) ∈ ta) : v = .str i := let ⟨_, _, q⟩ := e; q.tm _ h
theorem En.tm_bl (e : En K B F0 ro ka ta sg H) {v : V} {i : Bool} (h : (v, W.val (.bl i)) ∈ ta) : v = .bl i := let ⟨_, _, q⟩ := e; q.tm _ h
theorem En.tm_non (e : En K B F0 ro ka ta sg H) {v : V} (h : (v, W.val .non) ∈ ta) : v = .non := let ⟨_, _, q⟩ := e; q.tm _ h
theorem En.tm_adr (e : En K B F0 ro ka ta sg H) {v : V} {a : Addr} (h : (v, W.val (.adr a)) ∈ ta) : v = .ref a := let ⟨_, _, q⟩ := e; q.tm _ h
theorem En.tm_ty (e : En K B F0 ro ka ta sg H) {v : V} {i : String} (h : (v, W.val (.ty i)) ∈ ta) : v = .ty i := let ⟨_, _, q⟩ := e; q.tm _ h

/-- data that is the value itself -/
def imm : D → Bool
  | .non => true | .bl _ => true | .int _ => true | .str _ => true | .ty _ => true | .adr _ => true
  | _ => false
theorem imm_any {F G : Hp} : ∀ {d : D} {v : V}, imm d = true → Rp K F d v → Rp K G d v
  | .non, _, _, h => h
  | .bl _, _, _, h => h
  | .int _, _, _, h => h
  | .str _, _, _, h => h
  | .ty _, _, _, h => h
  | .adr _, _, _, h => h
/-- a part of something viewed, of something frozen -/
def part (b : Bool) (d : D) : W := if b && !imm d then .vw d else .val d
theorem wok_part {B F : Hp} {v : V} {d : D} (b : Bool) (h : Rp K (if b then uni B F else F) d v) : WOk K B F v (part b d) := by
  unfold part
  cases b with
  | false => exact h
  | true =>
    cases q : imm d with
    | true => exact imm_any q h
    | false => exact h
/-! ### names, constants -/
theorem ev_var {i : Nat} (h : ro[i]? = some (some w)) : EvD K (tVar i) ro ka w ka := fun B F0 ta sg H Q e q => by
  obtain ⟨F, g, e⟩ := e
  obtain ⟨v, h1, h2⟩ := e.sl i w h
  exact ⟨v, h1, q v H ⟨F, g, e.push h2⟩⟩
theorem ev_int {i : Int} : EvD K (tC (.int i)) ro ka (.val (.int i)) ka := fun B F0 ta sg H Q e q => q _ _ (e.push_imm fun _ => rfl)
theorem ev_str {i : Str} : EvD K (tC (.str i)) ro ka (.val (.str i)) ka := fun B F0 ta sg H Q e q => q _ _ (e.push_imm fun _ => rfl)
theorem ev_bl {i : Bool} : EvD K (tC (.bl i)) ro ka (.val (.bl i)) ka := fun B F0 ta sg H Q e q => q _ _ (e.push_imm fun _ => rfl)
theorem ev_non : EvD K (tC .non) ro ka (.val .non) ka := fun B F0 ta sg H Q e q => q _ _ (e.push_imm fun _ => rfl)
theorem ev_ty {a : String} : EvD K (tC (.ty a)) ro ka (.val (.ty a)) ka := fun B F0 ta sg H Q e q => q _ _ (e.push_imm fun _ => rfl)

/-! ### operations -/
theorem ev_op (ha : EvD K te ro ka x k1) (hb : EvD K tf ro k1 y k2) (hr : RvD K r k2 x y z) : EvD K (tOp r te tf) ro ka z k2 := fun B F0 ta sg H Q e q =>
  ha B F0 ta sg H _ e fun u H1 e1 => hb B F0 _ sg H1 _ e1 fun v H2 e2 => hr B F0 ro _ sg H2 u v Q e2 (List.mem_cons_of_mem _ List.mem_cons_self) List.mem_cons_self fun t H3 e3 =>
    q t H3 (e3.held fun p hp => by
      rcases List.mem_cons.mp hp with rfl | hp
      · exact List.mem_cons_self
      · exact List.mem_cons_of_mem _ (List.mem_cons_of_mem _ (List.mem_cons_of_mem _ hp)))
theorem evn_op (ha : EvD K te ro ka x k1) (hb : EvD K tf ro k1 y k2) (hr : RvN K r k2 x y n) : EvN K (tOp r te tf) ro ka n k2 := fun B F0 ta sg H Q e q =>
  ha B F0 ta sg H _ e fun u H1 e1 => hb B F0 _ sg H1 _ e1 fun v H2 e2 => hr B F0 ro _ sg H2 u v Q e2 (List.mem_cons_of_mem _ List.mem_cons_self) List.mem_cons_self fun t H3 e3 =>
    q t H3 (e3.held fun p hp => List.mem_cons_of_mem _ (List.mem_cons_of_mem _ hp))
theorem ea_nil : EvA K tNil ro ka [] ka := fun B F0 ta sg H Q e q => q [] H rfl e
theorem ea_cons (ha : EvD K te ro ka x k1) {ws : List W} (hr : EvA K tr ro k1 ws k2) : EvA K (tCons te tr) ro ka (x :: ws) k2 := fun B F0 ta sg H Q e q =>
  ha B F0 ta sg H _ e fun u H1 e1 => hr B F0 _ sg H1 _ e1 fun vs H2 hl e2 => q (u :: vs) H2 (by rw [List.length_cons, List.length_cons, hl]) (e2.held fun p hp => by
    have hp' : p ∈ (u, x) :: (vs.zip ws ++ ta) := hp
    rcases List.mem_cons.mp hp' with rfl | h
    · exact List.mem_append_right _ List.mem_cons_self
    · rcases List.mem_append.mp h with h | h
      · exact List.mem_append_left _ h
      · exact List.mem_append_right _ (List.mem_cons_of_mem _ h))
theorem ev_cb {r : List V → Hp → VK → Prop} {ws : List W} (ha : EvA K tr ro ka ws k1) (hr : RcD K r k1 ws z) : EvD K (tCB r tr) ro ka z k1 := fun B F0 ta sg H Q e q =>
  ha B F0 ta sg H _ e fun us H1 hl e1 => hr B F0 ro _ sg H1 us Q e1 hl (fun p hp => List.mem_append_left _ hp) fun t H2 e2 => q t H2 (e2.held fun p hp => by
    rcases List.mem_cons.mp hp with rfl | hp
    · exact List.mem_cons_self
    · exact List.mem_cons_of_mem _ (List.mem_append_right _ hp))
theorem evn_cb {r : List V → Hp → VK → Prop} {ws : List W} (ha : EvA K tr ro ka ws k1) (hr : RcN K r k1 ws n) : EvN K (tCB r tr) ro ka n k1 := fun B F0 ta sg H Q e q =>
  ha B F0 ta sg H _ e fun us H1 hl e1 => hr B F0 ro _ sg H1 us Q e1 hl (fun p hp => List.mem_append_left _ hp) fun t H2 e2 => q t H2 (e2.held fun p hp => List.mem_append_right _ hp)
/-- another of the ways of an operation -/
theorem rvd_l {r' : R2} (h : RvD K r ka x y z) : RvD K (fun x y H Q => r x y H Q ∨ r' x y H Q) ka x y z := fun B F0 ro ta sg H u v Q e h1 h2 q => .inl (h B F0 ro ta sg H u v Q e h1 h2 q)
theorem rvd_r {r' : R2} (h : RvD K r' ka x y z) : RvD K (fun x y H Q => r x y H Q ∨ r' x y H Q) ka x y z := fun B F0 ro ta sg H u v Q e h1 h2 q => .inr (h B F0 ro ta sg H u v Q e h1 h2 q)
theorem rvn_l {r' : R2} (h : RvN K r ka x y n) : RvN K (fun x y H Q => r x y H Q ∨ r' x y H Q) ka x y n := fun B F0 ro ta sg H u v Q e h1 h2 q => .inl (h B F0 ro ta sg H u v Q e h1 h2 q)
theorem rvn_r {r' : R2} (h : RvN K r' ka x y n) : RvN K (fun x y H Q => r x y H Q ∨ r' x y H Q) ka x y n := fun B F0 ro ta sg H u v Q e h1 h2 q => .inr (h B F0 ro ta sg H u v Q e h1 h2 q)
theorem rcd_l {r r' : List V → Hp → VK → Prop} {xs : List W} (h : RcD K r ka xs z) : RcD K (fun x H Q => r x H Q ∨ r' x H Q) ka xs z := fun B F0 ro ta sg H u Q e h1 h2 q => .inl (h B F0 ro ta sg H u Q e h1 h2 q)
theorem rcd_r {r r' : List V → Hp → VK → Prop} {xs : List W} (h : RcD K r' ka xs z) : RcD K (fun x H Q => r x H Q ∨ r' x H Q) ka xs z := fun B F0 ro ta sg H u Q e h1 h2 q => .inr (h B F0 ro ta sg H u Q e h1 h2 q)
/-! ### a new cell, frozen -/
theorem En.freeze_l (e : En K B F0 ro (ka ++ [(a, .lst ds)]) ta sg H) : En K B F0 ro ka ((.ref a, .val (.lst ds)) :: ta) sg H := by
  obtain ⟨F, g, e⟩ := e
  obtain ⟨fa, ba, xs, ha, rl⟩ := e.ce (a, .lst ds) (by simp)
  have gg : Gr B F (upd F a (.lst xs)) := ⟨Sub.new fa, fun b h1 h2 => by
    have ne : b ≠ a := fun q => h2 (q ▸ ba)
    rw [upd_ne ne]
    exact h1⟩
  have nd2 := e.nd
  rw [List.map_append, List.nodup_append] at nd2
  refine ⟨upd F a (.lst xs), g.trans gg, ⟨fun b u h => ?_, fun b u h => ?_, e.fr, nd2.1, fun q hq => ?_, e.ln, fun i w h => ?_, fun q hq => ?_⟩⟩
  · by_cases hb : b = a
    · subst hb; rw [upd_same] at h; cases h; rfl
    · rw [upd_ne hb] at h; exact e.nz b u h
  · by_cases hb : b = a
    · subst hb; rw [upd_same] at h; cases h; exact .inl ha
    · rw [upd_ne hb] at h; exact e.fz b u h
  · obtain ⟨h1, h2, h3⟩ := e.ce q (List.mem_append_left _ hq)
    have nq : q.1 ≠ a := fun z => nd2.2.2 q.1 (List.mem_map.mpr ⟨q, hq, rfl⟩) a (by simp) z
    exact ⟨by rw [upd_ne nq]; exact h1, h2, ndok_gr e.nz gg h3⟩
  · obtain ⟨v, h1, h2⟩ := e.sl i w h
    exact ⟨v, h1, wok_gr e.nz gg h2⟩
  · rcases List.mem_cons.mp hq with rfl | hq
    · exact ⟨a, xs, rfl, .inl upd_same, RpL.mono gg.sub.exz e.nz _ _ rl⟩
    · exact wok_gr e.nz gg (e.tm q hq)
theorem En.freeze_k (e : En K B F0 ro (ka ++ [(a, .dic ds)]) ta sg H) : En K B F0 ro ka ((.ref a, .val (.dic ds)) :: ta) sg H := by
  obtain ⟨F, g, e⟩ := e
  obtain ⟨fa, ba, xs, ha, rl⟩ := e.ce (a, .dic ds) (by simp)
  have gg : Gr B F (upd F a (.dK xs)) := ⟨Sub.new fa, fun b h1 h2 => by
    have ne : b ≠ a := fun q => h2 (q ▸ ba)
    rw [upd_ne ne]
    exact h1⟩
  have nd2 := e.nd
  rw [List.map_append, List.nodup_append] at nd2
  refine ⟨upd F a (.dK xs), g.trans gg, ⟨fun b u h => ?_, fun b u h => ?_, e.fr, nd2.1, fun q hq => ?_, e.ln, fun i w h => ?_, fun q hq => ?_⟩⟩
  · by_cases hb : b = a
    · subst hb; rw [upd_same] at h; cases h; rfl
    · rw [upd_ne hb] at h; exact e.nz b u h
  · by_cases hb : b = a
    · subst hb; rw [upd_same] at h; cases h; exact .inl ha
    · rw [upd_ne hb] at h; exact e.fz b u h
  · obtain ⟨h1, h2, h3⟩ := e.ce q (List.mem_append_left _ hq)
    have nq : q.1 ≠ a := fun z => nd2.2.2 q.1 (List.mem_map.mpr ⟨q, hq, rfl⟩) a (by simp) z
    exact ⟨by rw [upd_ne nq]; exact h1, h2, ndok_gr e.nz gg h3⟩
  · obtain ⟨v, h1, h2⟩ := e.sl i w h
    exact ⟨v, h1, wok_gr e.nz gg h2⟩
  · rcases List.mem_cons.mp hq with rfl | hq
    · exact ⟨a, xs, rfl, .inl upd_same, RpK.mono gg.sub.exz e.nz _ _ rl⟩
    · exact wok_gr e.nz gg (e.tm q hq)
theorem EvN.lst {ds : List D} (h : EvN K te ro ka (.lst ds) k1) : EvD K te ro ka (.val (.lst ds)) k1 := fun B F0 ta sg H Q e q => h B F0 ta sg H Q e fun a H1 e1 => q _ _ e1.freeze_l
theorem EvN.dic {ds : List (Key × D)} (h : EvN K te ro ka (.dic ds) k1) : EvD K te ro ka (.val (.dic ds)) k1 := fun B F0 ta sg H Q e q => h B F0 ta sg H Q e fun a H1 e1 => q _ _ e1.freeze_k

/-! ### tests -/
theorem et_test {b : Bool} (h : EvD K te ro ka (.val (.bl b)) k1) : EvT K (tTest te) ro ka b k1 := fun B F0 ta sg H Q e q => h B F0 ta sg H _ e fun v H1 e1 => ⟨b, e1.tm_bl List.mem_cons_self, q H1 e1.pop⟩
theorem et_B {b : Bool} (h : EvD K te ro ka (.val (.bl b)) k1) : EvT K (tB te) ro ka b k1 := fun B F0 ta sg H Q e q => h B F0 ta sg H _ e fun v H1 e1 => ⟨b, e1.tm_bl List.mem_cons_self, q H1 e1.pop⟩
theorem et_not {a : Bool} (h : EvT K tt ro ka a k1) : EvT K (tNot tt) ro ka (!a) k1 := fun B F0 ta sg H Q e q => h B F0 ta sg H _ e fun H1 e1 => q H1 e1
/-- and, or: k2 is reached in any case -/
theorem et_and {a b : Bool} (h1 : EvT K tt ro ka a k1) (h2 : a = true → EvT K tu ro k1 b k1) : EvT K (tAnd tt tu) ro ka (a && b) k1 := fun B F0 ta sg H Q e q => h1 B F0 ta sg H _ e fun H1 e1 => by
  cases a with
  | true => exact h2 rfl B F0 ta sg H1 Q e1 q
  | false => exact q H1 e1
theorem et_or {a b : Bool} (h1 : EvT K tt ro ka a k1) (h2 : a = false → EvT K tu ro k1 b k1) : EvT K (tOr tt tu) ro ka (a || b) k1 := fun B F0 ta sg H Q e q => h1 B F0 ta sg H _ e fun H1 e1 => by
  cases a with
  | true => exact q H1 e1
  | false => exact h2 rfl B F0 ta sg H1 Q e1 q
theorem et_and1 {b : Bool} (h1 : EvT K tt ro ka true k1) (h2 : EvT K tu ro k1 b k2) : EvT K (tAnd tt tu) ro ka b k2 := fun B F0 ta sg H Q e q => h1 B F0 ta sg H _ e fun H1 e1 => h2 B F0 ta sg H1 Q e1 q
theorem et_and0 (h1 : EvT K tt ro ka false k1) : EvT K (tAnd tt tu) ro ka false k1 := fun B F0 ta sg H Q e q => h1 B F0 ta sg H _ e fun H1 e1 => q H1 e1
theorem et_or0 {b : Bool} (h1 : EvT K tt ro ka false k1) (h2 : EvT K tu ro k1 b k2) : EvT K (tOr tt tu) ro ka b k2 := fun B F0 ta sg H Q e q => h1 B F0 ta sg H _ e fun H1 e1 => h2 B F0 ta sg H1 Q e1 q
theorem et_or1 (h1 : EvT K tt ro ka true k1) : EvT K (tOr tt tu) ro ka true k1 := fun B F0 ta sg H Q e q => h1 B F0 ta sg H _ e fun H1 e1 => q H1 e1
theorem EvT.to {a b : Bool} (h : EvT K tt ro ka a k1) (e : a = b) : EvT K tt ro ka b k1 := e ▸ h
theorem EvD.to {w' : W} (h : EvD K te ro ka w k1) (e : w = w') : EvD K te ro ka w' k1 := e ▸ h
theorem EvD.imm {d : D} (h : EvD K te ro ka (.vw d) k1) (i : imm d = true) : EvD K te ro ka (.val d) k1 := fun B F0 ta sg H Q e q => h B F0 ta sg H _ e fun v H1 e1 => q v H1 (by
  obtain ⟨F, g, e1⟩ := e1
  have h1 := e1.tm _ List.mem_cons_self
  exact ⟨F, g, (e1.held (ta' := ta) fun p hp => List.mem_cons_of_mem _ hp).push (imm_any i h1)⟩)
theorem EvD.vw {d : D} (h : EvD K te ro ka (.val d) k1) : EvD K te ro ka (.vw d) k1 := fun B F0 ta sg H Q e q => h B F0 ta sg H _ e fun v H1 e1 => q v H1 (by
  obtain ⟨F, g, e1⟩ := e1
  exact ⟨F, g, (e1.held (ta' := ta) fun p hp => List.mem_cons_of_mem _ hp).push (wok_vw e1.nz (e1.tm _ List.mem_cons_self))⟩)
theorem ev_andV {a b : Bool} (h1 : EvD K te ro ka (.val (.bl a)) k1) (h2 : a = true → EvD K tf ro k1 (.val (.bl b)) k1) : EvD K (tAndV te tf) ro ka (.val (.bl (a && b))) k1 := fun B F0 ta sg H Q e q => h1 B F0 ta sg H _ e fun v H1 e1 => ⟨a, e1.tm_bl List.mem_cons_self, by
  have hv := e1.tm_bl List.mem_cons_self
  cases a with
  | true => exact h2 rfl B F0 ta sg H1 Q e1.pop q
  | false => subst hv; exact q _ H1 e1⟩
theorem ev_orV {a b : Bool} (h1 : EvD K te ro ka (.val (.bl a)) k1) (h2 : a = false → EvD K tf ro k1 (.val (.bl b)) k1) : EvD K (tOrV te tf) ro ka (.val (.bl (a || b))) k1 := fun B F0 ta sg H Q e q => h1 B F0 ta sg H _ e fun v H1 e1 => ⟨a, e1.tm_bl List.mem_cons_self, by
  have hv := e1.tm_bl List.mem_cons_self
  cases a with
  | true => subst hv; exact q _ H1 e1
  | false => exact h2 rfl B F0 ta sg H1 Q e1.pop q⟩
theorem ev_andV1 (h1 : EvD K te ro ka (.val (.bl true)) k1) (h2 : EvD K tf ro k1 w k2) : EvD K (tAndV te tf) ro ka w k2 := fun B F0 ta sg H Q e q => h1 B F0 ta sg H _ e fun v H1 e1 => ⟨true, e1.tm_bl List.mem_cons_self, h2 B F0 ta sg H1 Q e1.pop q⟩
theorem ev_andV0 (h1 : EvD K te ro ka (.val (.bl false)) k1) : EvD K (tAndV te tf) ro ka (.val (.bl false)) k1 := fun B F0 ta sg H Q e q => h1 B F0 ta sg H _ e fun v H1 e1 => ⟨false, e1.tm_bl List.mem_cons_self, by
  have hv := e1.tm_bl List.mem_cons_self
  subst hv
  exact q _ H1 e1⟩
theorem ev_notV {a : Bool} (h1 : EvD K te ro ka (.val (.bl a)) k1) : EvD K (tNotV te) ro ka (.val (.bl (!a))) k1 := fun B F0 ta sg H Q e q => h1 B F0 ta sg H _ e fun v H1 e1 => ⟨a, e1.tm_bl List.mem_cons_self, q _ _ (e1.pop.push_imm fun _ => rfl)⟩
theorem ev_ifT (h : EvT K tt ro ka true k1) (h1 : EvD K te ro k1 w k2) : EvD K (tIf tt te tf) ro ka w k2 := fun B F0 ta sg H Q e q => h B F0 ta sg H _ e fun H1 e1 => h1 B F0 ta sg H1 Q e1 q
theorem ev_ifF (h : EvT K tt ro ka false k1) (h1 : EvD K tf ro k1 w k2) : EvD K (tIf tt te tf) ro ka w k2 := fun B F0 ta sg H Q e q => h B F0 ta sg H _ e fun H1 e1 => h1 B F0 ta sg H1 Q e1 q
theorem ev_if {b : Bool} (h : EvT K tt ro ka b k1) (h1 : b = true → EvD K te ro k1 w k2) (h2 : b = false → EvD K tf ro k1 w k2) : EvD K (tIf tt te tf) ro ka w k2 := by
  cases b with
  | true => exact ev_ifT h (h1 rfl)
  | false => exact ev_ifF h (h2 rfl)

/-! ### slices' parts -/
theorem eo_none : EvO K tNoPart ro ka none ka := fun B F0 ta sg H Q e q => q H e
theorem eo_some {i : Int} (h : EvD K te ro ka (.val (.int i)) k1) : EvO K (tPart te) ro ka (some i) k1 := fun B F0 ta sg H Q e q => h B F0 ta sg H _ e fun v H1 e1 => ⟨i, e1.tm_int List.mem_cons_self, q H1 e1.pop⟩

/-! ### tuples, lists displayed -/
theorem rpl_of {B F : Hp} : ∀ {vs : List V} {ds : List D}, vs.length = ds.length → (∀ p ∈ vs.zip (ds.map W.val), WOk K B F p.1 p.2) → RpL K F ds vs
  | [], [], _, _ => rfl
  | [], _ :: _, h, _ => by cases h
  | _ :: _, [], h, _ => by cases h
  | v :: vs, d :: ds, hl, h => ⟨v, vs, rfl, h (v, .val d) List.mem_cons_self, rpl_of (by simpa using hl) fun p hp => h p (List.mem_cons_of_mem _ hp)⟩
theorem rpl_len {F : Hp} : ∀ {ds : List D} {vs : List V}, RpL K F ds vs → vs.length = ds.length
  | [], vs, h => by rw [show vs = [] from h]; rfl
  | d :: ds, vs, h => by
    obtain ⟨x, ys, rfl, _, h2⟩ := h
    rw [List.length_cons, List.length_cons, rpl_len h2]
theorem rpl_get {F : Hp} : ∀ {ds : List D} {vs : List V} {i : Nat} {d : D}, RpL K F ds vs → ds[i]? = some d → ∃ v, vs[i]? = some v ∧ Rp K F d v
  | [], _, _, _, _, e => by simp at e
  | d0 :: ds, vs, 0, d, h, e => by
    obtain ⟨x, ys, rfl, h1, _⟩ := h
    cases e
    exact ⟨x, rfl, h1⟩
  | d0 :: ds, vs, i + 1, d, h, e => by
    obtain ⟨x, ys, rfl, _, h2⟩ := h
    obtain ⟨v, q1, q2⟩ := rpl_get (i := i) (d := d) h2 (by simpa using e)
    exact ⟨v, by simpa using q1, q2⟩
theorem rpl_app {F : Hp} : ∀ {ds es : List D} {xs ys : List V}, RpL K F ds xs → RpL K F es ys → RpL K F (ds ++ es) (xs ++ ys)
  | [], es, xs, ys, h, h2 => by rw [show xs = [] from h]; exact h2
  | d :: ds, es, xs, ys, h, h2 => by
    obtain ⟨x, zs, rfl, h1, h3⟩ := h
    exact ⟨x, zs ++ ys, rfl, h1, rpl_app h3 h2⟩
theorem rpl_drop {F : Hp} : ∀ (n : Nat) {ds : List D} {xs : List V}, RpL K F ds xs → RpL K F (ds.drop n) (xs.drop n)
  | 0, _, _, h => h
  | n + 1, [], xs, h => by rw [show xs = [] from h]; rfl
  | n + 1, d :: ds, xs, h => by
    obtain ⟨x, ys, rfl, _, h2⟩ := h
    exact rpl_drop n h2
theorem rpl_take {F : Hp} : ∀ (n : Nat) {ds : List D} {xs : List V}, RpL K F ds xs → RpL K F (ds.take n) (xs.take n)
  | 0, _, _, _ => rfl
  | n + 1, [], xs, h => by rw [show xs = [] from h]; rfl
  | n + 1, d :: ds, xs, h => by
    obtain ⟨x, ys, rfl, h1, h2⟩ := h
    exact ⟨x, ys.take n, rfl, h1, rpl_take n h2⟩
theorem rpl_set {F : Hp} : ∀ {ds : List D} {xs : List V} (i : Nat) {d : D} {v : V}, RpL K F ds xs → Rp K F d v → RpL K F (ds.set i d) (xs.set i v)
  | [], xs, _, _, _, h, _ => by rw [show xs = [] from h]; rfl
  | d :: ds, xs, 0, _, _, h, q => by
    obtain ⟨x, ys, rfl, h1, h2⟩ := h
    exact ⟨_, ys, rfl, q, h2⟩
  | d :: ds, xs, i + 1, _, _, h, q => by
    obtain ⟨x, ys, rfl, h1, h2⟩ := h
    exact ⟨x, _, rfl, h1, rpl_set i h2 q⟩
theorem rpl_rev {F : Hp} : ∀ {ds : List D} {xs : List V}, RpL K F ds xs → RpL K F ds.reverse xs.reverse
  | [], xs, h => by rw [show xs = [] from h]; rfl
  | d :: ds, xs, h => by
    obtain ⟨x, ys, rfl, h1, h2⟩ := h
    rw [List.reverse_cons, List.reverse_cons]
    exact rpl_app (rpl_rev h2) ⟨x, [], rfl, h1, rfl⟩
theorem rpl_repl {F : Hp} {ds : List D} {xs : List V} (h : RpL K F ds xs) : ∀ n : Nat, RpL K F (List.replicate n ds).flatten (List.replicate n xs).flatten
  | 0 => rfl
  | n + 1 => by
    rw [List.replicate_succ, List.replicate_succ, List.flatten_cons, List.flatten_cons]
    exact rpl_app h (rpl_repl h n)
theorem ev_tup {ds : List D} (h : EvA K tr ro ka (ds.map W.val) k1) (hl : ds.length ≤ 100000 := by decide) : EvD K (tTup tr) ro ka (.val (.tup ds)) k1 := fun B F0 ta sg H Q e q => h B F0 ta sg H _ e fun vs H1 hvl e1 => by
  rw [List.length_map] at hvl
  refine ⟨Nat.le_trans (by rw [hvl]; exact hl) (by decide : 100000 ≤ sizeLine), fun p hp => q _ _ ?_⟩
  obtain ⟨F, g, e1⟩ := e1
  obtain ⟨e2, g2⟩ := e1.lay (o := .tup vs) hp rfl
  refine ⟨_, g.trans g2, (e2.held (ta' := ta) fun p hp => List.mem_append_right _ hp).push ⟨p, vs, rfl, .inl (.inl upd_same), ?_⟩⟩
  exact RpL.mono g2.sub.exz e1.nz _ _ (rpl_of hvl fun z hz => e1.tm z (List.mem_append_left _ hz))
theorem evn_lst {ds : List D} (h : EvA K tr ro ka (ds.map W.val) k1) (hl : ds.length ≤ 100000 := by decide) : EvN K (tLst tr) ro ka (.lst ds) k1 := fun B F0 ta sg H Q e q => h B F0 ta sg H _ e fun vs H1 hvl e1 => by
  rw [List.length_map] at hvl
  refine ⟨Nat.le_trans (by rw [hvl]; exact hl) (by decide : 100000 ≤ sizeLine), fun p hp => q _ _ ?_⟩
  obtain ⟨F, g, e1⟩ := e1
  refine ⟨F, g, (e1.cell (o := .lst vs) hp (n := .lst ds) ⟨vs, upd_same, rpl_of hvl fun z hz => e1.tm z (List.mem_append_left _ hz)⟩).held fun p hp => List.mem_append_right _ hp⟩
end
end DL

/-! DC: operations by data (own work). -/
namespace DL
open PySem L2

/-! ### universal operators: each of the ways that this text takes -/
abbrev rAddI : R2 := rI0 fun i j => .int (i + j)
abbrev rAddS : R2 := fun x y H Q => ∃ i j, x = .str i ∧ y = .str j ∧ i.length + j.length ≤ sizeLine ∧ Q (.str (i ++ j)) H
/-- list + list, locked or not -/
def rCatR : R2 := fun x y H Q => ∃ l b xs zs, x = .ref l ∧ y = .ref b ∧ Rd H l (.lst xs) ∧ Rd H b (.lst zs) ∧ xs.length + zs.length ≤ sizeLine ∧ ∀ p, H p = none → Q (.ref p) (upd H p (.lst (xs ++ zs)))
section
variable {X : Cx}
theorem op_catR : OpR X (binaryOp .Add) rCatR := fun pins s sg H x y v u Q I rx ry h => by
  obtain ⟨l, b, xs, zs, ex, ey, h1, h2, hz, q⟩ := h
  subst ex ey
  cases rx
  cases ry
  have ⟨_, us, _, r, e⟩ := h1.ok I.hok
  have ⟨_, ws, _, r2, e2⟩ := h2.ok I.hok
  have lens : us.length + ws.length ≤ sizeLine := by rw [← r.length, ← r2.length]; exact hz
  refine PySem.P.add_list e e2 ?_ (show us.toArray.size + ws.toArray.size ≤ _ by rw [us.size_toArray, ws.size_toArray]; exact lens)
  rw [List.append_toArray]
  exact ⟨.ref _, _, I.lnew (t' := s.toks) (r.append r2) (xs.length_append ▸ hz), rfl, q _ I.fresh⟩
def rAddU (K : PySem.W.Frag) : R2 := fun x y H Q => rAddI x y H Q ∨ (fun x y H Q => rAddS x y H Q ∨ (fun x y H Q => rCatR x y H Q ∨ rCatA K x y H Q) x y H Q) x y H Q
theorem op_addU : OpR X (binaryOp .Add) (rAddU X.K) := op_add.or (op_add_str.or (op_catR.or op_catA))
/-- s * n for texts -/
abbrev rSubI : R2 := rI0 fun i j => .int (i - j)
abbrev rPowI : R2 := rI CPow fun i j => .int (i ^ j.toNat)
abbrev rModI : R2 := rI (fun _ j => 0 < j) fun i j => .int (i % j)
abbrev rDivI : R2 := rI CDiv fun i j => .int (i / j)
abbrev rLtI : R2 := rI0 fun i j => .bl (decide (i < j))
abbrev rGtI : R2 := rI0 fun i j => .bl (decide (j < i))
abbrev rGeI : R2 := rI0 fun i j => .bl (decide (j ≤ i))
end

section
variable {K : PySem.W.Frag} {B F0 : Hp} {ro : Ro} {ka k1 k2 k3 : Cells} {ta : List (V × W)} {sg : L2.St} {H : Hp} {te tf tg : TE} {tl th : TO} {tr : TA} {w x y z : W} {n : Nd} {r : R2}

/-! ### numbers -/
theorem rv_I0 {g : Int → Int → V} {i j : Int} {d : D} (h : ∀ F, Rp K F d (g i j)) : RvD K (rI0 g) ka (.val (.int i)) (.val (.int j)) (.val d) := fun B F0 ro ta sg H u v Q e h1 h2 q =>
  ⟨i, j, e.tm_int h1, e.tm_int h2, q _ _ (e.push_imm fun F => h F)⟩
theorem rv_I {C : Int → Int → Prop} {g : Int → Int → V} {i j : Int} {d : D} (c : C i j) (h : ∀ F, Rp K F d (g i j)) : RvD K (rI C g) ka (.val (.int i)) (.val (.int j)) (.val d) := fun B F0 ro ta sg H u v Q e h1 h2 q =>
  ⟨i, j, e.tm_int h1, e.tm_int h2, c, q _ _ (e.push_imm fun F => h F)⟩
theorem rv_addI {i j : Int} : RvD K (rAddU K) ka (.val (.int i)) (.val (.int j)) (.val (.int (i + j))) := rvd_l (rv_I0 fun _ => rfl)
theorem rv_addS {i j : Str} (h : i.length + j.length ≤ 100000) : RvD K (rAddU K) ka (.val (.str i)) (.val (.str j)) (.val (.str (i ++ j))) := rvd_r (rvd_l fun B F0 ro ta sg H u v Q e h1 h2 q =>
  ⟨i, j, e.tm_str h1, e.tm_str h2, Nat.le_trans h (by decide), q _ _ (e.push_imm fun F => rfl)⟩)
theorem rv_sub {i j : Int} : RvD K rSubI ka (.val (.int i)) (.val (.int j)) (.val (.int (i - j))) := rv_I0 fun _ => rfl
theorem rv_pow {i j : Int} (c : CPow i j) : RvD K rPowI ka (.val (.int i)) (.val (.int j)) (.val (.int (i ^ j.toNat))) := rv_I c fun _ => rfl
theorem rv_mod {i j : Int} (c : 0 < j) : RvD K rModI ka (.val (.int i)) (.val (.int j)) (.val (.int (i % j))) := rv_I c fun _ => rfl
theorem rv_div {i j : Int} (c : CDiv i j) : RvD K rDivI ka (.val (.int i)) (.val (.int j)) (.val (.int (i / j))) := rv_I c fun _ => rfl
theorem rv_lt {i j : Int} : RvD K rLtI ka (.val (.int i)) (.val (.int j)) (.val (.bl (decide (i < j)))) := rv_I0 fun _ => rfl
theorem rv_gt {i j : Int} : RvD K rGtI ka (.val (.int i)) (.val (.int j)) (.val (.bl (decide (j < i)))) := rv_I0 fun _ => rfl
theorem rv_ge {i j : Int} : RvD K rGeI ka (.val (.int i)) (.val (.int j)) (.val (.bl (decide (j ≤ i)))) := rv_I0 fun _ => rfl
/-! ### sequences: what stands behind a value -/
/-- w is a sequence of ds: t: a tuple; b: viewed -/
inductive Lk (ka : Cells) : W → Bool → List D → Bool → Prop where
  | vl {ds} : Lk ka (.val (.lst ds)) false ds false
  | vt {ds} : Lk ka (.val (.tup ds)) true ds false
  | wl {ds} : Lk ka (.vw (.lst ds)) false ds true
  | wt {ds} : Lk ka (.vw (.tup ds)) true ds true
  | ce {a ds} (j : Nat) (h : ka[j]? = some (a, .lst ds)) : Lk ka (.val (.adr a)) false ds false
def SqB (K : PySem.W.Frag) (t : Bool) (H : Hp) (a : Addr) (xs : List V) : Prop := if t then SqT K H a xs else Rd H a (.lst xs)
theorem SqB.sq {t : Bool} {a : Addr} {xs : List V} (h : SqB K t H a xs) : SqL K H a xs ∨ SqT K H a xs := by
  cases t with
  | true => exact .inr h
  | false => exact .inl (.inl h)
/-- what a sequence's value is, its items over a heap G that H holds -/
theorem Lk.get {F : Hp} {t b : Bool} {ds : List D} {v : V} (l : Lk ka w t ds b) (e : EnF K B F ro ka ta sg H) (h : WOk K B F v w) :
    ∃ a xs, v = .ref a ∧ SqB K t H a xs ∧ RpL K (if b then uni B F else F) ds xs := by
  cases l with
  | vl =>
    obtain ⟨a, xs, rfl, h1, h2⟩ := h
    exact ⟨a, xs, rfl, e.fz.rd e.nz h1, h2⟩
  | vt =>
    obtain ⟨a, xs, rfl, h1, h2⟩ := h
    exact ⟨a, xs, rfl, sqT_mono e.fz e.nz h1, h2⟩
  | wl =>
    obtain ⟨a, xs, rfl, h1, h2⟩ := h
    exact ⟨a, xs, rfl, (uni_exz e.fz e.fr).rd (uni_nz e.nz) h1, h2⟩
  | wt =>
    obtain ⟨a, xs, rfl, h1, h2⟩ := h
    exact ⟨a, xs, rfl, sqT_mono (uni_exz e.fz e.fr) (uni_nz e.nz) h1, h2⟩
  | @ce a ds j hj =>
    obtain ⟨_, _, xs, h1, h2⟩ := e.ce _ (List.mem_of_getElem? hj)
    have hv : v = .ref a := h
    exact ⟨a, xs, hv, .inl h1, h2⟩
theorem Lk.at {F : Hp} {t b : Bool} {ds : List D} {v : V} (l : Lk ka w t ds b) (e : EnF K B F ro ka ta sg H) (h : WOk K B F v w) :
    ∃ a xs, v = .ref a ∧ (SqL K H a xs ∨ SqT K H a xs) ∧ RpL K (if b then uni B F else F) ds xs :=
  let ⟨a, xs, h1, h2, h3⟩ := l.get e h
  ⟨a, xs, h1, h2.sq, h3⟩

/-! ### len -/
/-- len: sequences, texts, dicts -/
def rLenU (K : PySem.W.Frag) : List V → Hp → VK → Prop := fun xs H Q => (fun xs H Q => ∃ p ys, xs = [.ref p] ∧ (SqL K H p ys ∨ SqT K H p ys) ∧ Q (.int ys.length) H) xs H Q ∨ (fun xs H Q => ∃ z, xs = [.str z] ∧ z.length ≤ sizeLine ∧ Q (.int z.length) H) xs H Q
theorem call_lenU {X : Cx} : CallR X (.builtin "len") (rLenU X.K) := call_len_seq.or call_len_str
theorem zip_one {us : List V} {x : W} (h : us.length = [x].length) (hm : ∀ p ∈ us.zip [x], p ∈ ta) : ∃ u, us = [u] ∧ (u, x) ∈ ta := by
  match us, h with
  | [u], _ => exact ⟨u, rfl, hm _ List.mem_cons_self⟩
theorem zip_two {us : List V} {x y : W} (h : us.length = [x, y].length) (hm : ∀ p ∈ us.zip [x, y], p ∈ ta) : ∃ u v, us = [u, v] ∧ (u, x) ∈ ta ∧ (v, y) ∈ ta := by
  match us, h with
  | [u, v], _ => exact ⟨u, v, rfl, hm _ List.mem_cons_self, hm _ (List.mem_cons_of_mem _ List.mem_cons_self)⟩
theorem rc_len {t b : Bool} {ds : List D} (l : Lk ka w t ds b) : RcD K (rLenU K) ka [w] (.val (.int ds.length)) := rcd_l fun B F0 ro ta sg H us Q e hl hm q => by
  obtain ⟨u, rfl, hu⟩ := zip_one hl hm
  obtain ⟨F, g, e⟩ := e
  obtain ⟨a, xs, rfl, h1, h2⟩ := l.at e (e.tm _ hu)
  refine ⟨a, xs, rfl, h1, ?_⟩
  rw [rpl_len h2]
  exact q _ _ ⟨F, g, e.push rfl⟩
theorem rc_lenS {s : Str} (h : s.length ≤ 100000) : RcD K (rLenU K) ka [.val (.str s)] (.val (.int s.length)) := rcd_r fun B F0 ro ta sg H us Q e hl hm q => by
  obtain ⟨u, rfl, hu⟩ := zip_one hl hm
  have hv := e.tm_str hu
  subst hv
  exact ⟨s, rfl, Nat.le_trans h (by decide), q _ _ (e.push_imm fun _ => rfl)⟩

/-! ### items -/
theorem atI_map {α β : Type} {f : α → β → Prop} {xs : List α} {ys : List β} (hl : xs.length = ys.length) {i : Int} {y : β} (h : atI ys i = some y) (hf : ∀ (j : Nat) y, ys[j]? = some y → ∃ x, xs[j]? = some x ∧ f x y) : ∃ x, atI xs i = some x ∧ f x y := by
  unfold atI at h ⊢
  rw [hl]
  cases q : ixN ys.length i with
  | none => rw [q] at h; cases h
  | some j =>
    rw [q] at h
    exact hf j y h
theorem rv_ix {t b : Bool} {ds : List D} {i : Int} {d : D} (l : Lk ka w t ds b) (hd : atI ds i = some d) : RvD K (rIx K) ka w (.val (.int i)) (part b d) := fun B F0 ro ta sg H u v Q e h1 h2 q => by
  have hv := e.tm_int h2
  subst hv
  obtain ⟨F, g, e⟩ := e
  obtain ⟨a, xs, rfl, s1, s2⟩ := l.at e (e.tm _ h1)
  obtain ⟨z, hz, rz⟩ := atI_map (f := fun x d => Rp K (if b then uni B F else F) d x) (rpl_len s2) hd fun j y hy => rpl_get s2 hy
  have fin := q z H ⟨F, g, e.push (wok_part b rz)⟩
  rcases s1 with s1 | s1
  · exact .inl ⟨a, xs, i, z, rfl, rfl, s1, hz, fin⟩
  · exact .inr (.inl ⟨a, xs, i, z, rfl, rfl, s1, hz, fin⟩)
theorem rv_ixS {s : Str} {i : Int} {c : Nat} (hs : s.length ≤ 100000) (hc : atI s.cps.toList i = some c) : RvD K (rIx K) ka (.val (.str s)) (.val (.int i)) (.val (.str ⟨#[c]⟩)) := fun B F0 ro ta sg H u v Q e h1 h2 q =>
  .inr (.inr ⟨s, i, c, e.tm_str h1, e.tm_int h2, Nat.le_trans hs (by decide), hc, q _ _ (e.push_imm fun _ => rfl)⟩)

/-! ### slices -/
abbrev rSlU (K : PySem.W.Frag) : V → Option Int → Option Int → Hp → VK → Prop := fun x lo hi H Q => rSlL K x lo hi H Q ∨ (fun x lo hi H Q => rSlA K x lo hi H Q ∨ rSlS x lo hi H Q) x lo hi H Q
theorem sl_U {X : Cx} : SlR X (rSlU X.K) := sl_list.or (sl_tupA.or sl_str)
def cutD {α : Type} (xs : List α) (lo hi : Option Int) : List α := (xs.drop (HT.sIx xs.length 0 lo)).take (HT.sIx xs.length xs.length hi - HT.sIx xs.length 0 lo)
theorem rpl_cut {F : Hp} {ds : List D} {xs : List V} (h : RpL K F ds xs) (lo hi : Option Int) : RpL K F (cutD ds lo hi) (cutV xs lo hi) := by
  unfold cutD cutV
  rw [rpl_len h]
  exact rpl_take _ (rpl_drop _ h)
theorem ev_slT {lo hi : Option Int} {ds : List D} (ha : EvD K te ro ka (.val (.tup ds)) k1) (h1 : EvO K tl ro k1 lo k2) (h2 : EvO K th ro k2 hi k3) : EvD K (tSl (rSlU K) te tl th) ro ka (.val (.tup (cutD ds lo hi))) k3 := fun B F0 ta sg H Q e q =>
  ha B F0 ta sg H _ e fun u H1 e1 => h1 B F0 _ sg H1 _ e1 fun H2 e2 => h2 B F0 _ sg H2 _ e2 fun H3 e3 => by
    obtain ⟨F, g, e3⟩ := e3
    obtain ⟨a, xs, rfl, s1, s2⟩ := Lk.vt.get e3 (e3.tm _ List.mem_cons_self)
    have hk := e3.tm _ List.mem_cons_self
    refine .inr (.inl ⟨a, xs, rfl, s1, fun hw => q _ _ ⟨F, g, (e3.held (ta' := ta) fun p hp => List.mem_cons_of_mem _ hp).push ?_⟩, fun _ p hp => q (.ref p) _ ?_⟩)
    · have e0 : cutD ds lo hi = ds := by
        unfold cutD
        rw [← rpl_len s2, hw.1, hw.2]
        simp
        exact List.take_of_length_le (by rw [rpl_len s2]; exact Nat.le_refl _)
      rw [e0]
      exact hk
    · obtain ⟨e4, g4⟩ := e3.lay (o := .tup (cutV xs lo hi)) hp rfl
      exact ⟨_, g.trans g4, (e4.held (ta' := ta) fun p hp => List.mem_cons_of_mem _ hp).push ⟨p, _, rfl, .inl (.inl upd_same), RpL.mono g4.sub.exz e3.nz _ _ (rpl_cut s2 lo hi)⟩⟩
theorem ev_slS {lo hi : Option Int} {s : Str} (ha : EvD K te ro ka (.val (.str s)) k1) (h1 : EvO K tl ro k1 lo k2) (h2 : EvO K th ro k2 hi k3) (hs : s.length ≤ 100000) : EvD K (tSl (rSlU K) te tl th) ro ka (.val (.str (cutS s lo hi))) k3 := fun B F0 ta sg H Q e q =>
  ha B F0 ta sg H _ e fun u H1 e1 => h1 B F0 _ sg H1 _ e1 fun H2 e2 => h2 B F0 _ sg H2 _ e2 fun H3 e3 =>
    .inr (.inr ⟨s, e3.tm_str List.mem_cons_self, Nat.le_trans hs (by decide), q _ _ (e3.pop.push_imm fun _ => rfl)⟩)

/-! ### list + list, tuple + tuple -/
theorem rvn_cat {b1 b2 : Bool} {ds es : List D} (l1 : Lk ka x false ds false) (l2 : Lk ka y false es false) (hz : ds.length + es.length ≤ 100000) : RvN K (rAddU K) ka x y (.lst (ds ++ es)) :=
  rvn_r (rvn_r (rvn_l fun B F0 ro ta sg H u v Q e h1 h2 q => by
    obtain ⟨F, g, e⟩ := e
    obtain ⟨a, xs, rfl, s1, r1⟩ := l1.get e (e.tm _ h1)
    obtain ⟨b, ys, rfl, s2, r2⟩ := l2.get e (e.tm _ h2)
    refine ⟨a, b, xs, ys, rfl, rfl, s1, s2, by rw [rpl_len r1, rpl_len r2]; exact Nat.le_trans hz (by decide), fun p hp => q p _ ?_⟩
    exact ⟨F, g, e.cell (o := .lst (xs ++ ys)) hp (n := .lst (ds ++ es)) ⟨_, upd_same, rpl_app r1 r2⟩⟩))
end
end DL

/-! DS: statements, loops, contracts by data (own work). -/
namespace DL
open PySem L2

section
variable (K : PySem.W.Frag)
/-- from such a state P holds -/
def Gp (B F0 : Hp) (ta : List (V × W)) (P : L2.St → Hp → Prop) (ro : Ro) (ka : Cells) : Prop := ∀ sg H, En K B F0 ro ka ta sg H → P sg H
/-- how a call ends: with data, or an exception of a class, its own fields -/
inductive Out where
  | ret (d : D) | exc (C : Addr) (fs : List (Str × D)) | exc0 (C : Addr)
abbrev Ct := List W → Cells → (Out → Cells → Prop) → Prop
/-- what is wanted at a return -/
def RtOk (B F0 : Hp) (out : Out → Cells → Prop) (rt : VK) : Prop := ∀ d ka v H, out (.ret d) ka → En K B F0 [] ka [(v, .val d)] [] H → rt v H
def RxOk (B F0 : Hp) (out : Out → Cells → Prop) (E : XK) : Prop :=
  (∀ C fs ka dx H, out (.exc C fs) ka → En K B F0 [] (ka ++ [(dx, .xd fs)]) [] [] H → E (.ref C) (some dx) H) ∧
  ∀ C ka H, out (.exc0 C) ka → En K B F0 [] ka [] [] H → E (.ref C) none H
/-- the promise of a contract -/
def spC (C : Ct) : Sp := fun vs H Q E => ∃ B F args ka out, C args ka out ∧ vs.length = args.length ∧ En K B F [] ka (vs.zip args) [] H ∧ RtOk K B F out Q ∧ RxOk K B F out E
end

section
variable {K : PySem.W.Frag} {B F0 : Hp} {ro : Ro} {ka k1 k2 k3 : Cells} {ta : List (V × W)} {sg : L2.St} {H : Hp} {te tf tg : TE} {tl th : TO} {tr : TA} {tt : TT} {w x y z : W} {n : Nd} {r : R2} {De : Ends} {t u : TS} {P : L2.St → Hp → Prop}
theorem En.gp (e : En K B F0 ro ka ta sg H) (h : Gp K B F0 ta P ro ka) : P sg H := h sg H e
theorem En.set (e : En K B F0 ro ka ((v, w) :: ta) sg H) (i : Nat) : En K B F0 (ro.set i (some w)) ka ta (sg.set i (some v)) H :=
  let ⟨F, g, q⟩ := e
  ⟨F, g, (q.set (q.tm _ List.mem_cons_self) i).held fun _ h => List.mem_cons_of_mem _ h⟩
theorem En.setA (e : En K B F0 ro ka ta sg H) (i : Nat) (a : Addr) : En K B F0 (ro.set i (some (.val (.adr a)))) ka ta (sg.set i (some (.ref a))) H :=
  let ⟨F, g, q⟩ := e
  ⟨F, g, q.set (w := .val (.adr a)) rfl i⟩
theorem g_next (h : Gp K B F0 ta De.nx ro ka) : Gp K B F0 ta (tNext De) ro ka := h
theorem g_asg {i : Nat} (h : EvD K te ro ka w k1) (k : Gp K B F0 ta De.nx (ro.set i (some w)) k1) : Gp K B F0 ta (tAsg te (gName i) De) ro ka := fun sg H e => h B F0 ta sg H _ e fun v H1 e1 => k _ _ (e1.set i)
theorem g_asgN {i : Nat} (h : EvN K te ro ka n k1) (k : ∀ a, Gp K B F0 ta De.nx (ro.set i (some (.val (.adr a)))) (k1 ++ [(a, n)])) : Gp K B F0 ta (tAsg te (gName i) De) ro ka := fun sg H e => h B F0 ta sg H _ e fun a H1 e1 => k a _ _ (e1.setA i a)
theorem q_asg {i : Nat} (h : EvD K te ro ka w k1) (k : Gp K B F0 ta (u De) (ro.set i (some w)) k1) : Gp K B F0 ta (tSeq (tAsg te (gName i)) u De) ro ka := g_asg (De := { De with nx := u De }) h k
theorem q_asgN {i : Nat} (h : EvN K te ro ka n k1) (k : ∀ a, Gp K B F0 ta (u De) (ro.set i (some (.val (.adr a)))) (k1 ++ [(a, n)])) : Gp K B F0 ta (tSeq (tAsg te (gName i)) u De) ro ka := g_asgN (De := { De with nx := u De }) h k
theorem g_drop (h : EvD K te ro ka w k1) (k : Gp K B F0 ta De.nx ro k1) : Gp K B F0 ta (tDrop te De) ro ka := fun sg H e => h B F0 ta sg H _ e fun v H1 e1 => k _ _ e1.pop
theorem q_drop (h : EvD K te ro ka w k1) (k : Gp K B F0 ta (u De) ro k1) : Gp K B F0 ta (tSeq (tDrop te) u De) ro ka := g_drop (De := { De with nx := u De }) h k
theorem g_if {b : Bool} {u : TS} (h : EvT K tt ro ka b k1) (h1 : b = true → Gp K B F0 ta (t De) ro k1) (h2 : b = false → Gp K B F0 ta (u De) ro k1) : Gp K B F0 ta (tIfS tt t u De) ro ka := fun sg H e => h B F0 ta sg H _ e fun H1 e1 => by
  cases b with
  | true => exact h1 rfl _ _ e1
  | false => exact h2 rfl _ _ e1
/-- an if without else -/
theorem q_when {b : Bool} (h : EvT K tt ro ka b k1) (h1 : b = true → Gp K B F0 ta (t { De with nx := u De }) ro k1) (h2 : b = false → Gp K B F0 ta (u De) ro k1) : Gp K B F0 ta (tSeq (tIfS tt t tNext) u De) ro ka := g_if (De := { De with nx := u De }) h h1 h2
theorem En.leave (e : En K B F0 ro ka ((v, w) :: ta) sg H) : En K B F0 [] ka [(v, w)] [] H :=
  let ⟨F, g, q⟩ := e
  ⟨F, g, (q.frame (ro' := []) (sg' := []) rfl fun i w h => by simp at h).held fun p hp => by
    have : p = (v, w) := by simpa using hp
    rw [this]
    exact List.mem_cons_self⟩
theorem g_ret {out : Out → Cells → Prop} {d : D} {De : Ends} (hr : RtOk K B F0 out De.rt) (h : EvD K te ro ka (.val d) k1) (o : out (.ret d) k1) : Gp K B F0 ta (tRet te De) ro ka := fun sg H e => h B F0 ta sg H _ e fun v H1 e1 => hr d k1 v H1 o e1.leave
/-- the body's end without a return -/
theorem g_end {out : Out → Cells → Prop} {Q : VK} (hr : RtOk K B F0 out Q) (o : out (.ret .non) ka) : Gp K B F0 ta (fun _ H' => Q .non H') ro ka := fun sg H e => hr .non ka .non H o ((e.push_imm (v := .non) (w := .val .non) fun _ => rfl).leave)
/-! ### cells changed -/
theorem EnF.rd_lst {F : Hp} (e : EnF K B F ro ka ta sg H) {j : Nat} {a : Addr} {ds : List D} (hj : ka[j]? = some (a, .lst ds)) : ∃ xs, H a = some (.lst xs) ∧ RpL K F ds xs := (e.ce _ (List.mem_of_getElem? hj)).2.2
theorem g_app {j0 j : Nat} {a : Addr} {ds0 ds : List D} {d : D} {De : Ends} (ho : EvD K te ro ka (.val (.adr a)) k1) (h0 : k1[j0]? = some (a, .lst ds0)) (he : EvD K tf ro k1 (.val d) k2) (hj : k2[j]? = some (a, .lst ds)) (hz : ds.length < 100000)
    (k : Gp K B F0 ta De.nx ro (k2.set j (a, .lst (ds ++ [d])))) : Gp K B F0 ta (tDrop (tBM K "list" rAppend te (tCons tf tNil)) De) ro ka := fun sg H e => ho B F0 ta sg H _ e fun u H1 e1 => by
  have hu := e1.tm_adr List.mem_cons_self
  subst hu
  refine ⟨?_, he B F0 _ sg H1 _ e1 fun v H2 e2 => ?_⟩
  · obtain ⟨F, g, e1⟩ := e1
    obtain ⟨xs, hx, _⟩ := e1.rd_lst h0
    exact .inl ⟨rfl, xs, .inl (.inl hx)⟩
  · obtain ⟨F, g, e2⟩ := e2
    obtain ⟨xs, hx, rx⟩ := e2.rd_lst hj
    have hv := e2.tm _ List.mem_cons_self
    refine ⟨a, xs, v, rfl, rfl, hx, by rw [rpl_len rx]; exact Nat.lt_of_lt_of_le hz (by decide), k _ _ ⟨F, g, ?_⟩⟩
    exact (e2.write (o := .lst (xs ++ [v])) (n' := .lst (ds ++ [d])) hj ⟨_, upd_same, rpl_app rx ⟨v, [], rfl, hv, rfl⟩⟩).held fun p hp => List.mem_cons_of_mem _ (List.mem_cons_of_mem _ hp)
/-- xs[i] = v -/
theorem g_seti {j : Nat} {a : Addr} {ds : List D} {d : D} {i : Int} {ix : Nat} {De : Ends} (he : EvD K tf ro ka (.val d) k1) (ho : EvD K te ro k1 (.val (.adr a)) k2) (hi : EvD K tg ro k2 (.val (.int i)) k3) (hj : k3[j]? = some (a, .lst ds)) (hx : ixN ds.length i = some ix)
    (k : Gp K B F0 ta De.nx ro (k3.set j (a, .lst (ds.set ix d)))) : Gp K B F0 ta (tAsg tf (gSub te tg rSetL) De) ro ka := fun sg H e => he B F0 ta sg H _ e fun v H1 e1 => ho B F0 _ sg H1 _ e1 fun u H2 e2 => hi B F0 _ sg H2 _ e2 fun i' H3 e3 => by
  have hu := e3.tm_adr (List.mem_cons_of_mem _ List.mem_cons_self)
  have hi' := e3.tm_int List.mem_cons_self
  subst hu hi'
  obtain ⟨F, g, e3⟩ := e3
  obtain ⟨xs, hxs, rx⟩ := e3.rd_lst hj
  have hv := e3.tm (v, .val d) (List.mem_cons_of_mem _ (List.mem_cons_of_mem _ List.mem_cons_self))
  refine ⟨a, xs, i, ix, rfl, rfl, hxs, by rw [rpl_len rx]; exact hx, k _ _ ⟨F, g, ?_⟩⟩
  exact (e3.write (o := .lst (xs.set ix v)) (n' := .lst (ds.set ix d)) hj ⟨_, upd_same, rpl_set ix rx hv⟩).held fun p hp => List.mem_cons_of_mem _ (List.mem_cons_of_mem _ (List.mem_cons_of_mem _ hp))
theorem q_seti {j : Nat} {a : Addr} {ds : List D} {d : D} {i : Int} {ix : Nat} {De : Ends} (he : EvD K tf ro ka (.val d) k1) (ho : EvD K te ro k1 (.val (.adr a)) k2) (hi : EvD K tg ro k2 (.val (.int i)) k3) (hj : k3[j]? = some (a, .lst ds)) (hx : ixN ds.length i = some ix)
    (k : Gp K B F0 ta (u De) ro (k3.set j (a, .lst (ds.set ix d)))) : Gp K B F0 ta (tSeq (tAsg tf (gSub te tg rSetL)) u De) ro ka := g_seti (De := { De with nx := u De }) he ho hi hj hx k

/-! ### what is walked -/
/-- wi walks through the items ws, while C holds of the cells -/
def EvI (K : PySem.W.Frag) (wi : TI) (ro : Ro) (ka : Cells) (ws : List W) (C : Cells → Prop) (ka' : Cells) : Prop := ∀ B F0 ta sg H (R : It → Hp → Prop), En K B F0 ro ka ta sg H →
  (∀ J ta' H', (∀ p ∈ ta, p ∈ ta') → En K B F0 ro ka' ta' sg H' →
    (∀ i w ro2 ka2 ta2 sg2 H2, ws[i]? = some w → C ka2 → (∀ p ∈ ta', p ∈ ta2) → En K B F0 ro2 ka2 ta2 sg2 H2 → J.go i H2 ∧ ∀ x H3, J.yld i H2 x H3 → En K B F0 ro2 ka2 ((x, w) :: ta2) sg2 H3) →
    (∀ i ro2 ka2 ta2 sg2 H2, ws.length ≤ i → C ka2 → (∀ p ∈ ta', p ∈ ta2) → En K B F0 ro2 ka2 ta2 sg2 H2 → J.stop i H2) → R J H') → wi sg H R
/-- the word between two turns -/
def Jp (K : PySem.W.Frag) (B F0 : Hp) (ta : List (V × W)) (Inv : Ro → Cells → Prop) : L2.St → Hp → Prop := fun sg H => ∃ ro ka, Inv ro ka ∧ En K B F0 ro ka ta sg H
theorem g_jp {Inv : Ro → Cells → Prop} (h : Inv ro ka) : Gp K B F0 ta (Jp K B F0 ta Inv) ro ka := fun sg H e => ⟨ro, ka, h, e⟩
theorem g_for {wi : TI} {ws : List W} {C : Cells → Prop} {g : TG} {tb : TS} {De : Ends} (h : EvI K wi ro ka ws C k1) (Inv : Nat → Ro → Cells → Prop) (h0 : Inv 0 ro k1) (hC : ∀ i ro2 ka2, Inv i ro2 ka2 → C ka2)
    (hs : ∀ i w ro2 ka2, ws[i]? = some w → Inv i ro2 ka2 → ∀ ta', Gp K B F0 ta' (fun sg H => ∀ x, En K B F0 ro2 ka2 ((x, w) :: ta') sg H → g x sg H fun sg2 H2 => tb { De with nx := Jp K B F0 ta' (Inv (i + 1)), ct := Jp K B F0 ta' (Inv (i + 1)), bk := De.nx } sg2 H2) ro2 ka2)
    (hd : ∀ ro2 ka2 ta', Inv ws.length ro2 ka2 → (∀ p ∈ ta, p ∈ ta') → Gp K B F0 ta' De.nx ro2 ka2) : Gp K B F0 ta (tFor wi g tb De) ro ka := fun sg H e =>
  h B F0 ta sg H _ e fun J ta' H1 hta e1 hgo hst => by
    refine ⟨fun i m sg H => m = ws.length - i ∧ i ≤ ws.length ∧ Jp K B F0 ta' (Inv i) sg H, ⟨ws.length, by simp, Nat.zero_le _, ro, k1, h0, e1⟩, ?_⟩
    rintro i m sg2 H2 ⟨rfl, hi, ro2, ka2, inv, e2⟩
    by_cases hlt : i < ws.length
    · obtain ⟨g1, g2⟩ := hgo i ws[i] ro2 ka2 ta' sg2 H2 (List.getElem?_eq_getElem hlt) (hC i ro2 ka2 inv) (fun p hp => hp) e2
      refine .inr ⟨g1, Jp K B F0 ta' (Inv (i + 1)), fun sg' H' q => ⟨ws.length - (i + 1), by omega, rfl, hlt, q⟩, fun x H3 y => ?_⟩
      have e3 := g2 x H3 y
      exact hs i ws[i] ro2 ka2 (List.getElem?_eq_getElem hlt) inv ta' sg2 H3 e3.pop x e3
    · have ei : i = ws.length := by omega
      subst ei
      exact .inl ⟨hst _ ro2 ka2 ta' sg2 H2 (Nat.le_refl _) (hC _ ro2 ka2 inv) (fun p hp => hp) e2, hd ro2 ka2 ta' inv hta sg2 H2 e2⟩
/-- .. the target a name -/
theorem g_forn {wi : TI} {ws : List W} {C : Cells → Prop} {j : Nat} {tb : TS} {De : Ends} (h : EvI K wi ro ka ws C k1) (Inv : Nat → Ro → Cells → Prop) (h0 : Inv 0 ro k1) (hC : ∀ i ro2 ka2, Inv i ro2 ka2 → C ka2)
    (hs : ∀ i w ro2 ka2 ta', ws[i]? = some w → Inv i ro2 ka2 → Gp K B F0 ta' (tb { De with nx := Jp K B F0 ta' (Inv (i + 1)), ct := Jp K B F0 ta' (Inv (i + 1)), bk := De.nx }) (ro2.set j (some w)) ka2)
    (hd : ∀ ro2 ka2 ta', Inv ws.length ro2 ka2 → (∀ p ∈ ta, p ∈ ta') → Gp K B F0 ta' De.nx ro2 ka2) : Gp K B F0 ta (tFor wi (gName j) tb De) ro ka :=
  g_for h Inv h0 hC (fun i w ro2 ka2 hw inv ta' sg H e x ex => hs i w ro2 ka2 ta' hw inv _ _ (ex.set j)) hd
theorem q_forn {wi : TI} {ws : List W} {C : Cells → Prop} {j : Nat} {tb : TS} {De : Ends} (h : EvI K wi ro ka ws C k1) (Inv : Nat → Ro → Cells → Prop) (h0 : Inv 0 ro k1) (hC : ∀ i ro2 ka2, Inv i ro2 ka2 → C ka2)
    (hs : ∀ i w ro2 ka2 ta', ws[i]? = some w → Inv i ro2 ka2 → Gp K B F0 ta' (tb { De with nx := Jp K B F0 ta' (Inv (i + 1)), ct := Jp K B F0 ta' (Inv (i + 1)), bk := u De }) (ro2.set j (some w)) ka2)
    (hd : ∀ ro2 ka2 ta', Inv ws.length ro2 ka2 → (∀ p ∈ ta, p ∈ ta') → Gp K B F0 ta' (u De) ro2 ka2) : Gp K B F0 ta (tSeq (tFor wi (gName j) tb) u De) ro ka := g_forn (De := { De with nx := u De }) h Inv h0 hC hs hd
/-- while: a word and a number that falls -/
theorem g_while {tb : TS} {De : Ends} (Inv : Nat → Ro → Cells → Prop) (m0 : Nat) (h0 : Inv m0 ro ka)
    (hs : ∀ m ro2 ka2, Inv m ro2 ka2 → ∃ b k2, EvT K tt ro2 ka2 b k2 ∧ (b = true → Gp K B F0 ta (tb { De with nx := Jp K B F0 ta (fun r k => ∃ m', m' < m ∧ Inv m' r k), ct := Jp K B F0 ta (fun r k => ∃ m', m' < m ∧ Inv m' r k), bk := De.nx }) ro2 k2) ∧ (b = false → Gp K B F0 ta De.nx ro2 k2)) :
    Gp K B F0 ta (tWhile tt tb De) ro ka := fun sg H e => by
  refine ⟨fun m sg H => Jp K B F0 ta (Inv m) sg H, ⟨m0, ro, ka, h0, e⟩, fun m sg2 H2 ⟨ro2, ka2, inv, e2⟩ => ?_⟩
  obtain ⟨b, k2, ht, h1, h2⟩ := hs m ro2 ka2 inv
  refine ht B F0 ta sg2 H2 _ e2 fun H3 e3 => ?_
  cases b with
  | true => exact ⟨_, fun sg' H' ⟨r, k, ⟨m', hm, inv'⟩, e'⟩ => ⟨m', hm, r, k, inv', e'⟩, h1 rfl _ _ e3⟩
  | false => exact h2 rfl _ _ e3
theorem q_while {tb : TS} {De : Ends} (Inv : Nat → Ro → Cells → Prop) (m0 : Nat) (h0 : Inv m0 ro ka)
    (hs : ∀ m ro2 ka2, Inv m ro2 ka2 → ∃ b k2, EvT K tt ro2 ka2 b k2 ∧ (b = true → Gp K B F0 ta (tb { De with nx := Jp K B F0 ta (fun r k => ∃ m', m' < m ∧ Inv m' r k), ct := Jp K B F0 ta (fun r k => ∃ m', m' < m ∧ Inv m' r k), bk := u De }) ro2 k2) ∧ (b = false → Gp K B F0 ta (u De) ro2 k2)) :
    Gp K B F0 ta (tSeq (tWhile tt tb) u De) ro ka := g_while (De := { De with nx := u De }) Inv m0 h0 hs

theorem ei_range1 {tr : TA} {m : Int} (h : EvA K tr ro ka [.val (.int m)] k1) (hm : m ≤ 1000000) (hm0 : -1000000 ≤ m) : EvI K (iRng1 tr) ro ka ((List.range m.toNat).map fun i : Nat => W.val (.int (i : Int))) (fun _ => True) k1 := fun B F0 ta sg H R e q =>
  h B F0 ta sg H _ e fun vs H1 hl e1 => by
    match vs, hl with
    | [v], _ =>
      have hv := e1.tm_int (v := v) (i := m) List.mem_cons_self
      subst hv
      refine ⟨m, rfl, by omega, by omega, q _ ta H1 (fun p hp => hp) (e1.held fun p hp => List.mem_append_right _ hp) (fun i w ro2 ka2 ta2 sg2 H2 hw _ _ e2 => ?_) fun i ro2 ka2 ta2 sg2 H2 hi _ _ _ => ?_⟩
      · rw [List.getElem?_map] at hw
        cases hi : (List.range m.toNat)[i]? with
        | none => rw [hi] at hw; cases hw
        | some j =>
          rw [hi] at hw
          obtain ⟨hlt, hj⟩ := List.getElem?_eq_some_iff.mp hi
          rw [List.getElem_range] at hj
          subst hj
          cases hw
          refine ⟨by show i < _; simpa using hlt, fun x H3 ⟨e3, ex⟩ => ?_⟩
          subst e3 ex
          exact e2.push_imm fun _ => by
            show V.int (0 + (i : Int)) = V.int (i : Int)
            rw [Int.zero_add]
      · rw [List.length_map, List.length_range] at hi
        exact hi
end

/-! ### any sequence walked -/
/-- lists, tuples, texts -/
def iSeq (K : PySem.W.Frag) (tl : TE) : TI := fun sg H R => iList K tl sg H R ∨ iTup K tl sg H R ∨ iStr tl sg H R
theorem pi_seq {X : Cx} {tg : Expr} {l : Expr} {tl : TE} (hl : PE X l tl) : PI X tg l (iSeq X.K tl) :=
  ⟨fun pins s sg H R I h => h.elim ((pi_list hl).run pins s sg H R I) fun h => h.elim ((pi_tup hl).run pins s sg H R I) ((pi_str hl).run pins s sg H R I)⟩
section
variable {K : PySem.W.Frag} {ro : Ro} {ka k1 : Cells} {te : TE} {w : W}
/-- the cell that is walked stays -/
def Stay (w : W) (ds : List D) (ka : Cells) : Prop := match w with
  | .val (.adr a) => (a, Nd.lst ds) ∈ ka
  | _ => True
theorem Lk.mono {ka : Cells} {t b : Bool} {ds : List D} (l : Lk ka w t ds b) (ka2 : Cells) (h : Stay w ds ka2) : Lk ka2 w t ds b := by
  cases l with
  | vl => exact .vl
  | vt => exact .vt
  | wl => exact .wl
  | wt => exact .wt
  | ce j hj =>
    obtain ⟨j2, h2⟩ := List.getElem?_of_mem h
    exact .ce j2 h2
theorem ei_seq {t b : Bool} {ds : List D} (h : EvD K te ro ka w k1) (l : Lk k1 w t ds b) : EvI K (iSeq K te) ro ka (ds.map (part b)) (Stay w ds) k1 := fun B F0 ta sg H R e q => by
  have again : ∀ (a : Addr) ro2 ka2 ta2 sg2 H2, Stay w ds ka2 → (V.ref a, w) ∈ ta2 → En K B F0 ro2 ka2 ta2 sg2 H2 → ∃ F ys, EnF K B F ro2 ka2 ta2 sg2 H2 ∧ Gr B F0 F ∧ SqB K t H2 a ys ∧ RpL K (if b then uni B F else F) ds ys := fun a ro2 ka2 ta2 sg2 H2 hs hm e2 => by
    obtain ⟨F, g, e2⟩ := e2
    obtain ⟨a', ys, e', s2, r2⟩ := (l.mono ka2 hs).get e2 (e2.tm _ hm)
    cases e'
    exact ⟨F, ys, e2, g, s2, r2⟩
  have item : ∀ {i : Nat} {w2 : W} {F : Hp} {ys : List V}, (ds.map (part b))[i]? = some w2 → RpL K (if b then uni B F else F) ds ys → ∃ y, ys[i]? = some y ∧ WOk K B F y w2 := fun {i w2 F ys} hw r2 => by
    rw [List.getElem?_map] at hw
    cases hd : ds[i]? with
    | none => rw [hd] at hw; cases hw
    | some d =>
      rw [hd] at hw
      cases hw
      obtain ⟨y, hy, ry⟩ := rpl_get r2 hd
      exact ⟨y, hy, wok_part b ry⟩
  cases t with
  | true =>
    refine .inr (.inl (h B F0 ta sg H _ e fun v H1 e1 => ?_))
    obtain ⟨F, g, ef⟩ := id e1
    obtain ⟨a, xs, rfl, s1, r1⟩ := l.get ef (ef.tm _ List.mem_cons_self)
    refine ⟨a, rfl, ⟨xs, s1⟩, q _ ((.ref a, w) :: ta) H1 (fun p hp => List.mem_cons_of_mem _ hp) e1 (fun i w2 ro2 ka2 ta2 sg2 H2 hw hs hm e2 => ?_) fun i ro2 ka2 ta2 sg2 H2 hi hs hm e2 => ?_⟩
    · obtain ⟨F2, ys, ef2, g2, s2, r2⟩ := again a ro2 ka2 ta2 sg2 H2 hs (hm _ List.mem_cons_self) e2
      obtain ⟨y, hy, wy⟩ := item hw r2
      refine ⟨⟨ys, y, s2, hy⟩, fun x H3 ⟨e3, ex⟩ => ?_⟩
      subst e3
      have h5 := ex ys s2
      rw [hy] at h5
      cases h5
      exact ⟨F2, g2, ef2.push wy⟩
    · obtain ⟨F2, ys, ef2, g2, s2, r2⟩ := again a ro2 ka2 ta2 sg2 H2 hs (hm _ List.mem_cons_self) e2
      refine ⟨ys, s2, ?_⟩
      rw [rpl_len r2]
      rwa [List.length_map] at hi
  | false =>
    refine .inl (h B F0 ta sg H _ e fun v H1 e1 => ?_)
    obtain ⟨F, g, ef⟩ := id e1
    obtain ⟨a, xs, rfl, s1, r1⟩ := l.get ef (ef.tm _ List.mem_cons_self)
    refine ⟨a, rfl, ⟨xs, .inl s1⟩, q _ ((.ref a, w) :: ta) H1 (fun p hp => List.mem_cons_of_mem _ hp) e1 (fun i w2 ro2 ka2 ta2 sg2 H2 hw hs hm e2 => ?_) fun i ro2 ka2 ta2 sg2 H2 hi hs hm e2 => ?_⟩
    · obtain ⟨F2, ys, ef2, g2, s2, r2⟩ := again a ro2 ka2 ta2 sg2 H2 hs (hm _ List.mem_cons_self) e2
      obtain ⟨y, hy, wy⟩ := item hw r2
      refine ⟨⟨ys, y, .inl s2, hy⟩, fun x H3 ⟨e3, ex⟩ => ?_⟩
      subst e3
      have h5 := ex ys (.inl s2)
      rw [hy] at h5
      cases h5
      exact ⟨F2, g2, ef2.push wy⟩
    · obtain ⟨F2, ys, ef2, g2, s2, r2⟩ := again a ro2 ka2 ta2 sg2 H2 hs (hm _ List.mem_cons_self) e2
      refine ⟨ys, .inl s2, ?_⟩
      rw [rpl_len r2]
      rwa [List.length_map] at hi
theorem ei_str {s : Str} (h : EvD K te ro ka (.val (.str s)) k1) : EvI K (iSeq K te) ro ka (s.cps.toList.map fun c => W.val (.str ⟨#[c]⟩)) (fun _ => True) k1 := fun B F0 ta sg H R e q =>
  .inr (.inr (h B F0 ta sg H _ e fun v H1 e1 => by
    have hv := e1.tm_str List.mem_cons_self
    subst hv
    refine ⟨s, rfl, q _ ta H1 (fun p hp => hp) e1.pop (fun i w2 ro2 ka2 ta2 sg2 H2 hw _ hm e2 => ?_) fun i ro2 ka2 ta2 sg2 H2 hi _ hm e2 => ?_⟩
    · rw [List.getElem?_map] at hw
      cases hd : s.cps.toList[i]? with
      | none => rw [hd] at hw; cases hw
      | some c =>
        rw [hd] at hw
        cases hw
        have hc : s.cps[i]? = some c := by simpa using hd
        refine ⟨(Array.getElem?_eq_some_iff.mp hc).1, fun x H3 ⟨e3, c', hc', ex⟩ => ?_⟩
        subst e3 ex
        rw [hc] at hc'
        cases hc'
        exact e2.push_imm fun _ => rfl
    · show s.cps.size ≤ i
      simpa using hi))
end
end DL

/-! DT: frames, calls, comprehensions by data (own work). -/
namespace DL
open PySem L2

section
variable {K : PySem.W.Frag} {B B' F F' F0 : Hp} {ro : Ro} {ka k1 k2 k3 kr : Cells} {ta : List (V × W)} {sg : L2.St} {H H' : Hp} {te tf tg : TE} {tl th : TO} {tr : TA} {tt : TT} {w x y z : W} {n : Nd}

/-- H without the cells of kf -/
def off (H : Hp) (kf : Cells) : Hp := fun a => if a ∈ kf.map (·.1) then none else H a
theorem off_in {kf : Cells} {a : Addr} (h : a ∈ kf.map (·.1)) : off H kf a = none := if_pos h
theorem off_out {kf : Cells} {a : Addr} (h : a ∉ kf.map (·.1)) : off H kf a = H a := if_neg h
theorem off_some {kf : Cells} {a : Addr} {o : HO} (h : off H kf a = some o) : a ∉ kf.map (·.1) ∧ H a = some o := by
  unfold off at h
  split at h
  · cases h
  · rename_i q
    exact ⟨q, h⟩
theorem EnF.sub_off (e : EnF K B F ro ka ta sg H) {kf : Cells} (hk : ∀ p ∈ kf, p ∈ ka) : Sub B (off H kf) := fun a o h => by
  have na : a ∉ kf.map (·.1) := fun hm => by
    obtain ⟨p, hp, rfl⟩ := List.mem_map.mp hm
    have := (e.ce p (hk p hp)).2.1
    rw [this] at h
    cases h
  rw [off_out na]
  exact e.fr a o h
theorem uni_subB {B B' F : Hp} (h : Sub B B') : Sub (uni B F) (uni B' F) := fun a u q => by
  unfold uni at q ⊢
  cases hf : F a with
  | some o => rw [hf] at q; exact q
  | none =>
    rw [hf] at q
    cases hb : B a with
    | none => rw [hb] at q; cases q
    | some o => rw [hb] at q; rw [h a o hb]; exact q
theorem wok_subB (n : Nz F) (h : Sub B B') {v : V} {w : W} (q : WOk K B F v w) : WOk K B' F v w := by
  cases w with
  | val d => exact q
  | vw d => exact Rp.mono (uni_subB h).exz (uni_nz n) d v q
/-- the part of a state that a part of the text works on: the cells kf, all else as it stands -/
theorem EnF.into (e : EnF K B F ro (ka ++ kr) ta sg H) {ro' : Ro} {sg' : L2.St} {ta' : List (V × W)} (hl : sg'.length = ro'.length) (hs : ∀ (i : Nat) w, ro'[i]? = some (some w) → ∃ v, sg'[i]? = some (some v) ∧ WOk K B F v w) (ht : ∀ p ∈ ta', p ∈ ta) :
    EnF K (off H ka) F ro' ka ta' sg' H := by
  have hsub : Sub B (off H ka) := e.sub_off fun p hp => List.mem_append_left _ hp
  have nd := e.nd
  rw [List.map_append, List.nodup_append] at nd
  refine ⟨e.nz, e.fz, fun a o h => (off_some h).2, nd.1, fun p hp => ?_, hl, fun i w h => ?_, fun p hp => wok_subB e.nz hsub (e.tm p (ht p hp))⟩
  · obtain ⟨h1, h2, h3⟩ := e.ce p (List.mem_append_left _ hp)
    exact ⟨h1, off_in (List.mem_map.mpr ⟨p, hp, rfl⟩), h3⟩
  · obtain ⟨v, h1, h2⟩ := hs i w h
    exact ⟨v, h1, wok_subB e.nz hsub h2⟩
/-- .. and back -/
theorem EnF.back (e : EnF K B F ro (ka ++ kr) ta sg H) (g : Gr (off H ka) F F') {ro' : Ro} {sg' : L2.St} {ta' : List (V × W)} (e' : EnF K (off H ka) F' ro' k2 ta' sg' H') {tb : List (V × W)} (hb : ∀ p ∈ tb, p ∈ ta ∨ ∃ d, p.2 = .val d ∧ p ∈ ta') :
    Gr B F F' ∧ EnF K B F' ro (k2 ++ kr) tb sg H' := by
  have hsub : Sub B (off H ka) := e.sub_off fun p hp => List.mem_append_left _ hp
  have gg : Gr B F F' := ⟨g.sub, fun a h1 h2 => g.off a h1 fun q => by
    cases hb2 : B a with
    | none => exact h2 hb2
    | some o => rw [hsub a o hb2] at q; cases q⟩
  have nd := e.nd
  rw [List.map_append, List.nodup_append] at nd
  -- the cells that were left stand off what was worked on
  have left : ∀ p ∈ kr, off H ka p.1 ≠ none ∧ H' p.1 = H p.1 := fun p hp => by
    obtain ⟨h1, h2, h3⟩ := e.ce p (List.mem_append_right _ hp)
    have hn : p.1 ∉ ka.map (·.1) := fun hm => nd.2.2 _ hm _ (List.mem_map.mpr ⟨p, hp, rfl⟩) rfl
    cases q : H p.1 with
    | none => exact absurd q (ndok_ne h3)
    | some o =>
      have ho : off H ka p.1 = some o := by rw [off_out hn]; exact q
      exact ⟨by rw [ho]; exact fun z => (by cases z), e'.fr _ _ ho⟩
  refine ⟨gg, e'.nz, e'.fz, hsub.trans e'.fr, ?_, fun p hp => ?_, e.ln, fun i w h => ?_, fun p hp => ?_⟩
  · rw [List.map_append, List.nodup_append]
    refine ⟨e'.nd, nd.2.1, fun a ha b hb => ?_⟩
    obtain ⟨p, hp, rfl⟩ := List.mem_map.mp ha
    obtain ⟨q, hq, rfl⟩ := List.mem_map.mp hb
    intro z
    exact (left q hq).1 (z ▸ (e'.ce p hp).2.1)
  · rcases List.mem_append.mp hp with hp | hp
    · obtain ⟨h1, h2, h3⟩ := e'.ce p hp
      refine ⟨h1, ?_, h3⟩
      cases q : B p.1 with
      | none => rfl
      | some o => rw [hsub _ _ q] at h2; cases h2
    · obtain ⟨h1, h2, h3⟩ := e.ce p (List.mem_append_right _ hp)
      obtain ⟨l1, l2⟩ := left p hp
      exact ⟨g.off _ h1 l1, h2, ndok_at l2 (ndok_gr e.nz gg h3)⟩
  · obtain ⟨v, h1, h2⟩ := e.sl i w h
    exact ⟨v, h1, wok_gr e.nz gg h2⟩
  · rcases hb p hp with q | ⟨d, hd, q⟩
    · exact wok_gr e.nz gg (e.tm p q)
    · have h2 := e'.tm p q
      rw [hd] at h2 ⊢
      exact h2

/-! ### frames -/
theorem EvD.fr {d : D} (h : EvD K te ro ka (.val d) k2) (kr : Cells) : EvD K te ro (ka ++ kr) (.val d) (k2 ++ kr) := fun B F0 ta sg H Q e q => by
  obtain ⟨F, g, e⟩ := e
  refine h (off H ka) F ta sg H Q ⟨F, Gr.refl _ _, e.into e.ln e.sl fun p hp => hp⟩ fun v H' ⟨F', g', e'⟩ => ?_
  obtain ⟨g2, e2⟩ := e.back g' e' (tb := (v, .val d) :: ta) fun p hp => by
    rcases List.mem_cons.mp hp with rfl | hp
    · exact .inr ⟨d, rfl, List.mem_cons_self⟩
    · exact .inl hp
  exact q v H' ⟨F', g.trans g2, e2⟩
theorem EvT.fr {b : Bool} (h : EvT K tt ro ka b k2) (kr : Cells) : EvT K tt ro (ka ++ kr) b (k2 ++ kr) := fun B F0 ta sg H Q e q => by
  obtain ⟨F, g, e⟩ := e
  refine h (off H ka) F ta sg H Q ⟨F, Gr.refl _ _, e.into e.ln e.sl fun p hp => hp⟩ fun H' ⟨F', g', e'⟩ => ?_
  obtain ⟨g2, e2⟩ := e.back g' e' (tb := ta) fun p hp => .inl hp
  exact q H' ⟨F', g.trans g2, e2⟩
theorem En.perm (e : En K B F0 ro ka ta sg H) (h : k1.Perm ka) : En K B F0 ro k1 ta sg H :=
  let ⟨F, g, q⟩ := e
  ⟨F, g, q.perm h⟩
theorem EvN.fr {m : Nd} (h : EvN K te ro ka m k2) (kr : Cells) : EvN K te ro (ka ++ kr) m (k2 ++ kr) := fun B F0 ta sg H Q e q => by
  obtain ⟨F, g, e⟩ := e
  refine h (off H ka) F ta sg H Q ⟨F, Gr.refl _ _, e.into e.ln e.sl fun p hp => hp⟩ fun a H' ⟨F', g', e'⟩ => ?_
  obtain ⟨g2, e2⟩ := e.back g' e' (tb := ta) fun p hp => .inl hp
  refine q a H' ⟨F', g.trans g2, e2.perm ?_⟩
  rw [List.append_assoc, List.append_assoc]
  exact List.Perm.append_left _ List.perm_append_comm

/-! ### calls -/
/-- a call that comes back -/
theorem sp_ret {C : Ct} {ws : List W} {out : Out → Cells → Prop} {vs : List V} {E : XK} {Q : VK} {d : D} (e : En K B F0 ro (ka ++ kr) (vs.zip ws ++ ta) sg H) (hl : vs.length = ws.length) (hC : C ws ka out) (ho : ∀ o k, out o k → o = .ret d ∧ k = k2)
    (q : ∀ v H', En K B F0 ro (k2 ++ kr) ((v, .val d) :: ta) sg H' → Q v H') : spC K C vs H Q E := by
  obtain ⟨F, g, e⟩ := e
  refine ⟨off H ka, F, ws, ka, out, hC, hl, ⟨F, Gr.refl _ _, e.into (ro' := []) (sg' := []) (ta' := vs.zip ws) rfl (fun i w h => by simp at h) fun p hp => List.mem_append_left _ hp⟩, fun d' k v H' o ⟨F', g', e'⟩ => ?_, fun C fs k dx H' o _ => ?_, fun C k H' o _ => ?_⟩
  · obtain ⟨hd, rfl⟩ := ho _ _ o
    cases hd
    obtain ⟨g2, e2⟩ := e.back g' e' (tb := (v, .val d) :: ta) fun p hp => by
      rcases List.mem_cons.mp hp with rfl | hp
      · exact .inr ⟨d, rfl, List.mem_cons_self⟩
      · exact .inl (List.mem_append_right _ hp)
    exact q v H' ⟨F', g.trans g2, e2⟩
  · have := (ho _ _ o).1
    cases this
  · have := (ho _ _ o).1
    cases this
theorem ev_call {C : Ct} {ws : List W} {out : Out → Cells → Prop} {E : XK} {d : D} (ha : EvA K tr ro ka ws k1) (hC : C ws k1 out) (ho : ∀ o k, out o k → o = .ret d ∧ k = k2) : EvD K (tCall (spC K C) [] E tr) ro ka (.val d) k2 := fun B F0 ta sg H Q e q =>
  ha B F0 ta sg H _ e fun vs H1 hl e1 => by
    rw [List.append_nil]
    have e1' : En K B F0 ro (k1 ++ []) (vs.zip ws ++ ta) sg H1 := by rw [List.append_nil]; exact e1
    exact sp_ret e1' hl hC ho fun v H' e2 => q v H' (by rw [List.append_nil] at e2; exact e2)
/-- .. the cells that it works on ahead of others -/
theorem ev_callF {C : Ct} {ws : List W} {out : Out → Cells → Prop} {E : XK} {d : D} (kr : Cells) (ha : EvA K tr ro ka ws (k1 ++ kr)) (hC : C ws k1 out) (ho : ∀ o k, out o k → o = .ret d ∧ k = k2) : EvD K (tCall (spC K C) [] E tr) ro ka (.val d) (k2 ++ kr) := fun B F0 ta sg H Q e q =>
  ha B F0 ta sg H _ e fun vs H1 hl e1 => by
    rw [List.append_nil]
    exact sp_ret e1 hl hC ho q
/-! ### comprehensions -/
def wipeR (ro : Ro) : List Nat → Ro
  | [] => ro
  | v :: vs => (wipeR ro vs).set v none
theorem wipe_en : ∀ {vs : List Nat}, EnF K B F ro ka ta sg H → EnF K B F (wipeR ro vs) ka ta (wipe sg vs) H
  | [], e => e
  | v :: vs, e => by
    have e1 := wipe_en (vs := vs) e
    refine e1.frame (by show (List.set _ _ _).length = (List.set _ _ _).length; rw [List.length_set, List.length_set, e1.ln]) fun i w h => ?_
    show ∃ v', ((wipe sg vs).set v none)[i]? = some (some v') ∧ _
    have h' : ((wipeR ro vs).set v none)[i]? = some (some w) := h
    by_cases hi : v = i
    · subst hi
      have hlt : v < (wipeR ro vs).length := by
        have := (List.getElem?_eq_some_iff.mp h').1
        rwa [List.length_set] at this
      rw [List.getElem?_set_self hlt] at h'
      cases h'
    · rw [List.getElem?_set_ne hi] at h' ⊢
      exact e1.sl i w h'
theorem wipe_set (sg : L2.St) (vs : List Nat) {j : Nat} (hj : j ∈ vs) (v : V) : wipe ((wipe sg vs).set j (some v)) vs = wipe sg vs := by
  have key : ∀ (vs : List Nat) (s t : L2.St), s.length = t.length → (∀ i : Nat, i ∉ vs → s[i]? = t[i]?) → wipe s vs = wipe t vs := by
    intro vs
    induction vs with
    | nil =>
      intro s t hl h
      exact List.ext_getElem? fun i => h i (by simp)
    | cons a vs ih =>
      intro s t hl h
      show (wipe s vs).set a none = (wipe t vs).set a none
      apply List.ext_getElem?
      intro i
      by_cases hi : a = i
      · subst hi
        rw [List.getElem?_set, List.getElem?_set, wipe_length, wipe_length, hl, if_pos rfl, if_pos rfl]
      · rw [List.getElem?_set_ne hi, List.getElem?_set_ne hi]
        have gen : ∀ (vs : List Nat) (s t : L2.St), s.length = t.length → ∀ i : Nat, s[i]? = t[i]? → (wipe s vs)[i]? = (wipe t vs)[i]? := by
          intro vs
          induction vs with
          | nil => intro s t _ i h; exact h
          | cons b vs ih2 =>
            intro s t hl i h
            show ((wipe s vs).set b none)[i]? = ((wipe t vs).set b none)[i]?
            rw [List.getElem?_set, List.getElem?_set, wipe_length, wipe_length, hl, ih2 s t hl i h]
        by_cases hv : i ∈ vs
        · have wn : ∀ (vs : List Nat) (s : L2.St) (i : Nat), i ∈ vs → i < s.length → (wipe s vs)[i]? = some none := by
            intro vs
            induction vs with
            | nil => intro s i h; simp at h
            | cons b vs ih2 =>
              intro s i h hlt
              show ((wipe s vs).set b none)[i]? = some none
              by_cases hb : b = i
              · subst hb
                rw [List.getElem?_set_self (by rw [wipe_length]; exact hlt)]
              · rw [List.getElem?_set_ne hb]
                rcases List.mem_cons.mp h with q | q
                · exact absurd q.symm hb
                · exact ih2 s i q hlt
          by_cases hlt : i < s.length
          · rw [wn vs s i hv hlt, wn vs t i hv (hl ▸ hlt)]
          · rw [List.getElem?_eq_none (by rw [wipe_length]; omega), List.getElem?_eq_none (by rw [wipe_length]; omega)]
        · exact gen vs s t hl i (h i (by simp [Ne.symm hi, hv]))
  have idem : ∀ (vs : List Nat) (s : L2.St), wipe (wipe s vs) vs = wipe s vs := fun vs s => key vs _ _ (wipe_length _ _) fun i hi => by
    have gen : ∀ (us : List Nat) (s : L2.St), i ∉ us → (wipe s us)[i]? = s[i]? := by
      intro us
      induction us with
      | nil => intro s _; rfl
      | cons b us ih2 =>
        intro s h
        show ((wipe s us).set b none)[i]? = s[i]?
        rw [List.getElem?_set_ne (fun q => h (by simp [q])), ih2 s fun q => h (List.mem_cons_of_mem _ q)]
    exact gen vs s hi
  have e1 : wipe ((wipe sg vs).set j (some v)) vs = wipe (wipe sg vs) vs := key vs _ _ (by rw [List.length_set]) fun i hi => by
    have hne : j ≠ i := fun q => hi (q ▸ hj)
    exact List.getElem?_set_ne hne
  rw [e1, idem]
/-- a new cell of which R tells -/
def EvNR (K : PySem.W.Frag) (te : TE) (ro : Ro) (ka : Cells) (R : Nd → Cells → Prop) : Prop := ∀ B F0 ta sg H (Q : VK), En K B F0 ro ka ta sg H → (∀ n k a H', R n k → En K B F0 ro (k ++ [(a, n)]) ta sg H' → Q (.ref a) H') → te sg H Q
/-- [e for x in .. if ..]: what is told of the list -/
theorem evr_lc {wi : TI} {ws : List W} {C : Cells → Prop} {j : Nat} {vs : List Nat} (h : EvI K wi ro ka ws C k1) (hj : j ∈ vs) (hn : ws.length ≤ 1000000) (Inv : Nat → List D → Cells → Prop) (h0 : Inv 0 [] k1) (hC : ∀ i acc k, Inv i acc k → C k ∧ ∀ x, C (k ++ [x]))
    (hs : ∀ i w acc k, ws[i]? = some w → Inv i acc k → (∃ k2, EvT K tt ((wipeR ro vs).set j (some w)) k false k2 ∧ Inv (i + 1) acc k2) ∨ ∃ k2 k3 d, EvT K tt ((wipeR ro vs).set j (some w)) k true k2 ∧ EvD K te ((wipeR ro vs).set j (some w)) k2 (.val d) k3 ∧ Inv (i + 1) (acc ++ [d]) k3)
    : EvNR K (tLc wi (gName j) tt te vs) ro ka (fun n k => ∃ acc, n = .lst acc ∧ Inv ws.length acc k) := fun B F0 ta sg H Q e q =>
  h B F0 ta sg H _ e fun J ta' H1 hta e1 hgo hst => fun Dl hD => by
    -- the word: the list so far is the last cell
    let P : Nat → Hp → Prop := fun i H => ∃ acc k, Inv i acc k ∧ acc.length ≤ i ∧ En K B F0 ro (k ++ [(Dl, .lst acc)]) ta' sg H
    have p0 : P 0 (upd H1 Dl (.lst [])) := by
      obtain ⟨F, g, e1⟩ := e1
      exact ⟨[], k1, h0, Nat.le_refl _, F, g, e1.cell (o := .lst []) hD (n := .lst []) ⟨[], upd_same, rfl⟩⟩
    refine ⟨fun i m H => m = ws.length - i ∧ i ≤ ws.length ∧ P i H, ⟨ws.length, by simp, Nat.zero_le _, p0⟩, ?_⟩
    rintro i m H2 ⟨rfl, hi, acc, k, inv, hlen, e2⟩
    by_cases hlt : i < ws.length
    · have hw := List.getElem?_eq_getElem hlt
      obtain ⟨g1, g2⟩ := hgo i ws[i] ro (k ++ [(Dl, .lst acc)]) ta' sg H2 hw ((hC i acc k inv).2 _) (fun p hp => hp) e2
      refine .inr ⟨g1, P (i + 1), fun H' p => ⟨ws.length - (i + 1), by omega, rfl, hlt, p⟩, fun x H3 y => ?_⟩
      have e3 := g2 x H3 y
      refine ⟨wipe_set sg vs hj x, ?_⟩
      -- within the block
      have e4 : En K B F0 ((wipeR ro vs).set j (some ws[i])) (k ++ [(Dl, .lst acc)]) ta' ((wipe sg vs).set j (some x)) H3 := by
        obtain ⟨F, g, e3⟩ := e3
        exact ⟨F, g, ((wipe_en (vs := vs) e3).set (e3.tm _ List.mem_cons_self) j).held fun p hp => List.mem_cons_of_mem _ hp⟩
      -- and back out of it
      have out : ∀ {k : Cells} {ta2 : List (V × W)} {H : Hp}, (∃ F, Gr B F0 F ∧ EnF K B F ((wipeR ro vs).set j (some ws[i])) k ta2 ((wipe sg vs).set j (some x)) H ∧ ∀ (a : Nat) w, ro[a]? = some (some w) → ∃ v, sg[a]? = some (some v) ∧ WOk K B F v w) → En K B F0 ro k ta2 sg H := fun ⟨F, g, q, hs⟩ => ⟨F, g, q.frame (by obtain ⟨_, _, e0⟩ := e; exact e0.ln) hs⟩
      obtain ⟨F3, gF3, eF3⟩ := e3
      have slots : ∀ {F : Hp}, Gr B F3 F → ∀ (a : Nat) w, ro[a]? = some (some w) → ∃ v, sg[a]? = some (some v) ∧ WOk K B F v w := fun {F} g a w ha => by
        obtain ⟨v, h1, h2⟩ := eF3.sl a w ha
        exact ⟨v, h1, wok_gr eF3.nz g h2⟩
      have e4' : En K B F3 ((wipeR ro vs).set j (some ws[i])) (k ++ [(Dl, .lst acc)]) ta' ((wipe sg vs).set j (some x)) H3 :=
        ⟨F3, Gr.refl _ _, ((wipe_en (vs := vs) eF3).set (eF3.tm _ List.mem_cons_self) j).held fun p hp => List.mem_cons_of_mem _ hp⟩
      rcases hs i ws[i] acc k hw inv with ⟨k2, t1, inv2⟩ | ⟨k2, k3, d, t1, t2, inv2⟩
      · refine t1.fr [(Dl, .lst acc)] B F3 ta' _ H3 _ e4' fun H4 ⟨F4, g4, e5⟩ => ?_
        exact ⟨acc, k2, inv2, Nat.le_succ_of_le hlen, out ⟨F4, gF3.trans g4, e5, slots g4⟩⟩
      · refine t1.fr [(Dl, .lst acc)] B F3 ta' _ H3 _ e4' fun H4 e5 => ?_
        refine t2.fr [(Dl, .lst acc)] B F3 ta' _ H4 _ e5 fun v H5 ⟨F5, g5, e6⟩ => ?_
        have hx : (k3 ++ [(Dl, Nd.lst acc)])[k3.length]? = some (Dl, Nd.lst acc) := by simp
        obtain ⟨xs, h1, h2⟩ := e6.rd_lst hx
        have hv := e6.tm _ List.mem_cons_self
        have e7 := e6.write (o := .lst (xs ++ [v])) (n' := .lst (acc ++ [d])) hx ⟨_, upd_same, rpl_app h2 ⟨v, [], rfl, hv, rfl⟩⟩
        have hset : (k3 ++ [(Dl, Nd.lst acc)]).set k3.length (Dl, Nd.lst (acc ++ [d])) = k3 ++ [(Dl, Nd.lst (acc ++ [d]))] := by
          rw [List.set_append_right _ _ (Nat.le_refl _)]
          simp
        rw [hset] at e7
        refine ⟨xs, h1, by rw [rpl_len h2]; exact Nat.lt_of_le_of_lt (Nat.le_trans hlen (Nat.le_trans hi hn)) (by decide), acc ++ [d], k3, inv2, by rw [List.length_append]; exact Nat.succ_le_succ hlen, ?_⟩
        exact out ⟨F5, gF3.trans g5, e7.held fun p hp => List.mem_cons_of_mem _ hp, slots g5⟩
    · have ei : i = ws.length := by omega
      subst ei
      refine .inl ⟨hst _ ro (k ++ [(Dl, .lst acc)]) ta' sg H2 (Nat.le_refl _) ((hC _ acc k inv).2 _) (fun p hp => hp) e2, ?_⟩
      exact q _ _ Dl H2 ⟨acc, rfl, inv⟩ (e2.held hta)
/-- [e for x in .. if ..] -/
theorem evn_lc {wi : TI} {ws : List W} {C : Cells → Prop} {j : Nat} {vs : List Nat} (h : EvI K wi ro ka ws C k1) (hj : j ∈ vs) (hn : ws.length ≤ 1000000) (Inv : Nat → List D → Cells → Prop) (h0 : Inv 0 [] k1) (hC : ∀ i acc k, Inv i acc k → C k ∧ ∀ x, C (k ++ [x]))
    (hs : ∀ i w acc k, ws[i]? = some w → Inv i acc k → (∃ k2, EvT K tt ((wipeR ro vs).set j (some w)) k false k2 ∧ Inv (i + 1) acc k2) ∨ ∃ k2 k3 d, EvT K tt ((wipeR ro vs).set j (some w)) k true k2 ∧ EvD K te ((wipeR ro vs).set j (some w)) k2 (.val d) k3 ∧ Inv (i + 1) (acc ++ [d]) k3)
    {ds : List D} {kz : Cells} (hd : ∀ acc k, Inv ws.length acc k → acc = ds ∧ k = kz) : EvN K (tLc wi (gName j) tt te vs) ro ka (.lst ds) kz := fun B F0 ta sg H Q e q => evr_lc h hj hn Inv h0 hC hs B F0 ta sg H Q e fun n k a H' ⟨acc, hn', inv⟩ e' => by
  subst hn'
  obtain ⟨rfl, rfl⟩ := hd acc k inv
  exact q a H' e'
end
end DL

/-! DE: equality of data (own work). -/
namespace DL
open PySem L2 PySem.SeqAt

mutual
def eqD : D → D → Bool
  | .non, .non => true
  | .bl a, .bl b => a == b
  | .bl a, .int j => (if a then 1 else 0) == j
  | .int i, .bl b => i == (if b then 1 else 0)
  | .int i, .int j => i == j
  | .str x, .str y => x == y
  | .lst xs, .lst ys => eqL xs ys
  | .tup xs, .tup ys => eqL xs ys
  | _, _ => false
def eqL : List D → List D → Bool
  | [], [] => true
  | x :: xs, y :: ys => eqD x y && eqL xs ys
  | _, _ => false
end
/-- plain data: numbers, texts, lists and tuples of these, at most n deep -/
def pl : Nat → D → Bool
  | _, .non => true
  | _, .bl _ => true
  | _, .int _ => true
  | _, .str _ => true
  | n + 1, .lst ds => ds.all (pl n)
  | n + 1, .tup ds => ds.all (pl n)
  | _, _ => false
theorem eqL_len : ∀ {xs ys : List D}, eqL xs ys = true → xs.length = ys.length
  | [], [], _ => rfl
  | [], _ :: _, h => by cases h
  | _ :: _, [], h => by cases h
  | x :: xs, y :: ys, h => by
    have h2 := (Bool.and_eq_true_iff.mp (show (eqD x y && eqL xs ys) = true from h)).2
    rw [List.length_cons, List.length_cons, eqL_len h2]
theorem eqL_ne {xs ys : List D} (h : xs.length ≠ ys.length) : eqL xs ys = false := by
  cases q : eqL xs ys with
  | false => rfl
  | true => exact absurd (eqL_len q) h
/-- equal item by item -/
theorem eqL_all : ∀ (xs ys : List D), xs.length = ys.length → eqL xs ys = (List.range xs.length).all fun j => eqD (xs.getD j .non) (ys.getD j .non)
  | [], [], _ => rfl
  | [], _ :: _, h => by cases h
  | _ :: _, [], h => by cases h
  | x :: xs, y :: ys, h => by
    have ih := eqL_all xs ys (by simpa using h)
    show (eqD x y && eqL xs ys) = _
    rw [ih, List.length_cons, List.range_succ_eq_map, List.all_cons, List.all_map]
    rfl
theorem eqD_refl (n : Nat) : ∀ (d : D), pl n d = true → eqD d d = true := by
  induction n with
  | zero =>
    intro d h
    cases d <;> first | rfl | exact beq_self_eq_true _ | cases h
  | succ n ih =>
    have hl : ∀ ds : List D, ds.all (pl n) = true → eqL ds ds = true := by
      intro ds
      induction ds with
      | nil => intro _; rfl
      | cons d ds ih2 =>
        intro h
        rw [List.all_cons] at h
        obtain ⟨h1, h2⟩ := Bool.and_eq_true_iff.mp h
        show (eqD d d && eqL ds ds) = true
        rw [ih d h1, ih2 h2] <;> rfl
    intro d h
    cases d with
    | lst ds => exact hl ds h
    | tup ds => exact hl ds h
    | _ => first | rfl | exact beq_self_eq_true _ | cases h
section
variable {X : Cx} {pins : List (Addr × Obj)} {sg : L2.St} {H G : Hp} {s : Shared}
/-- the same value, two readings: equal -/
theorem eqD_same (I : Inv X pins sg H s) (fz : Exz G H) (nz : Nz G) (n : Nat) : ∀ (d e : D) (v : V), pl n d = true → pl n e = true → Rp X.K G d v → Rp X.K G e v → eqD d e = true := by
  induction n with
  | zero =>
    intro d e v h1 h2 r1 r2
    cases d <;> first | (exact absurd h1 Bool.false_ne_true) | skip
    all_goals cases e <;> first | (exact absurd h2 Bool.false_ne_true) | skip
    all_goals (have q := Eq.trans (Eq.symm (show v = _ from r1)) (show v = _ from r2); first | rfl | (cases q <;> first | rfl | exact beq_self_eq_true _))
  | succ n ih =>
    have hl : ∀ (ds es : List D) (xs : List V), ds.all (pl n) = true → es.all (pl n) = true → RpL X.K G ds xs → RpL X.K G es xs → eqL ds es = true := by
      intro ds
      induction ds with
      | nil =>
        intro es xs _ _ r1 r2
        cases es with
        | nil => rfl
        | cons e es =>
          obtain ⟨x, ys, hx, _⟩ := r2
          rw [show xs = [] from r1] at hx
          cases hx
      | cons d ds ih2 =>
        intro es xs h1 h2 r1 r2
        obtain ⟨x, ys, rfl, a1, a2⟩ := r1
        cases es with
        | nil => cases (show x :: ys = [] from r2)
        | cons e es =>
          obtain ⟨x', ys', hx, b1, b2⟩ := r2
          cases hx
          rw [List.all_cons] at h1 h2
          obtain ⟨c1, c2⟩ := Bool.and_eq_true_iff.mp h1
          obtain ⟨e1, e2⟩ := Bool.and_eq_true_iff.mp h2
          show (eqD d e && eqL ds es) = true
          rw [ih d e x c1 e1 a1 b1, ih2 es ys c2 e2 a2 b2] <;> rfl
    intro d e v h1 h2 r1 r2
    cases d <;> first | (exact absurd h1 Bool.false_ne_true) | skip
    all_goals cases e <;> first | (exact absurd h2 Bool.false_ne_true) | skip
    case tup.tup ds es =>
      obtain ⟨a, xs, rfl, q1, q2⟩ := r1
      obtain ⟨a', ys, e', p1, p2⟩ := r2
      cases e'
      have hxy := I.tuple_inj (sqT_mono fz nz q1) (sqT_mono fz nz p1)
      subst hxy
      exact hl ds es xs h1 h2 q2 p2
    case lst.lst ds es =>
      obtain ⟨a, xs, rfl, q1, q2⟩ := r1
      obtain ⟨a', ys, e', p1, p2⟩ := r2
      cases e'
      have hxy := I.list_inj (.inl (fz.rd nz q1)) (.inl (fz.rd nz p1))
      subst hxy
      exact hl ds es xs h1 h2 q2 p2
    case tup.lst ds es =>
      obtain ⟨a, xs, rfl, q1, q2⟩ := r1
      obtain ⟨a', ys, e', p1, p2⟩ := r2
      cases e'
      obtain ⟨its, _, t1, _⟩ := I.tuple (sqT_mono fz nz q1)
      obtain ⟨its2, _, t2, _⟩ := I.list (.inl (fz.rd nz p1))
      exact absurd rfl (ne_of_list_tuple t2.isList t1)
    case lst.tup ds es =>
      obtain ⟨a, xs, rfl, q1, q2⟩ := r1
      obtain ⟨a', ys, e', p1, p2⟩ := r2
      cases e'
      obtain ⟨its, _, t1, _⟩ := I.tuple (sqT_mono fz nz p1)
      obtain ⟨its2, _, t2, _⟩ := I.list (.inl (fz.rd nz q1))
      exact absurd rfl (ne_of_list_tuple t2.isList t1)
    all_goals first
      | (obtain ⟨a, xs, rfl, _⟩ := r1; cases (show V.ref a = _ from r2))
      | (obtain ⟨a, xs, rfl, _⟩ := r2; cases (show V.ref a = _ from r1))
      | (have q := Eq.trans (Eq.symm (show v = _ from r1)) (show v = _ from r2); first | rfl | (cases q <;> first | rfl | exact beq_self_eq_true _))
/-- the items' equality, by place -/
theorem items_eq {n : Nat} {A : Around} (ih : ∀ (d e : D) (A : Around) (v w : V) (u u' : Value), pl n d = true → pl n e = true → Rp X.K G d v → Rp X.K G e w → RelV v u → RelV w u' → A.units + n < cLine → EqAt A s u u' (eqD d e))
    {ds es : List D} {xs ys : List V} {its its2 : List Value} (h1 : ds.all (pl n) = true) (h2 : es.all (pl n) = true) (r1 : RpL X.K G ds xs) (r2 : RpL X.K G es ys) (q1 : Vals xs its) (q2 : Vals ys its2) (hu : A.units + (n + 1) < cLine) :
    ∀ j (l1 : j < its.toArray.size) (l2 : j < its2.toArray.size), EqAt A.in1 s its.toArray[j] its2.toArray[j] (eqD (ds.getD j .non) (es.getD j .non)) := fun j l1 l2 => by
  have k1 : j < its.length := by simpa using l1
  have k2 : j < its2.length := by simpa using l2
  have m1 : j < ds.length := by rw [← rpl_len r1, q1.length]; exact k1
  have m2 : j < es.length := by rw [← rpl_len r2, q2.length]; exact k2
  obtain ⟨v, hv, rv⟩ := rpl_get r1 (List.getElem?_eq_getElem m1)
  obtain ⟨w, hw, rw2⟩ := rpl_get r2 (List.getElem?_eq_getElem m2)
  obtain ⟨u, hu1, ru⟩ := q1.get hv
  obtain ⟨u', hu2, ru'⟩ := q2.get hw
  have e1 : its.toArray[j] = u := by
    rw [List.getElem?_eq_getElem k1] at hu1
    simpa using hu1
  have e2 : its2.toArray[j] = u' := by
    rw [List.getElem?_eq_getElem k2] at hu2
    simpa using hu2
  have g1 : ds.getD j .non = ds[j] := by simp [List.getD, List.getElem?_eq_getElem m1]
  have g2 : es.getD j .non = es[j] := by simp [List.getD, List.getElem?_eq_getElem m2]
  rw [e1, e2, g1, g2]
  exact ih _ _ A.in1 v w u u' (List.all_eq_true.mp h1 _ (List.getElem_mem m1)) (List.all_eq_true.mp h2 _ (List.getElem_mem m2)) rv rw2 ru ru' (by show A.units + 1 + n < cLine; omega)
theorem list_flat {A : Around} {a : Addr} {its : Array Value} (h : s.heap.IsList a its) (hu : A.units < cLine) : ∀ {w : V} {u : Value}, RelV w u → flatV w = true → EqAt A s (.ref a) u false ∧ EqAt A s u (.ref a) false
  | .non, u, r, _ => by
    cases r
    exact ⟨EqAt.list_none h hu, EqAt.none_list h hu⟩
  | .bl b, u, r, _ => by
    cases r
    exact ⟨EqAt.list_bool b h hu, EqAt.bool_list b h hu⟩
  | .int i, u, r, _ => by
    obtain ⟨t, rfl⟩ := r
    exact ⟨EqAt.list_int i t h hu, EqAt.int_list i t h hu⟩
  | .str z, u, r, _ => by
    obtain ⟨t, rfl⟩ := r
    exact ⟨EqAt.list_str z t h hu, EqAt.str_list z t h hu⟩
  | .byt _, _, _, f => absurd f Bool.false_ne_true
  | .flt _, _, _, f => absurd f Bool.false_ne_true
  | .ref _, _, _, f => absurd f Bool.false_ne_true
  | .ty _, _, _, f => absurd f Bool.false_ne_true
theorem tup_flat {A : Around} {a : Addr} {its : Array Value} (h : s.heap.IsTuple a its) (hu : A.units < cLine) : ∀ {w : V} {u : Value}, RelV w u → flatV w = true → EqAt A s (.ref a) u false ∧ EqAt A s u (.ref a) false
  | .non, u, r, _ => by
    cases r
    exact ⟨EqAt.tuple_none h hu, EqAt.none_tuple h hu⟩
  | .bl b, u, r, _ => by
    cases r
    exact ⟨EqAt.tuple_bool b h hu, EqAt.bool_tuple b h hu⟩
  | .int i, u, r, _ => by
    obtain ⟨t, rfl⟩ := r
    exact ⟨EqAt.tuple_int i t h hu, EqAt.int_tuple i t h hu⟩
  | .str z, u, r, _ => by
    obtain ⟨t, rfl⟩ := r
    exact ⟨EqAt.tuple_str z t h hu, EqAt.str_tuple z t h hu⟩
  | .byt _, _, _, f => absurd f Bool.false_ne_true
  | .flt _, _, _, f => absurd f Bool.false_ne_true
  | .ref _, _, _, f => absurd f Bool.false_ne_true
  | .ty _, _, _, f => absurd f Bool.false_ne_true
/-- flat data -/
def fl : D → Bool
  | .non => true
  | .bl _ => true
  | .int _ => true
  | .str _ => true
  | _ => false
theorem fl_v : ∀ {d : D} {v : V}, fl d = true → Rp X.K G d v → flatV v = true
  | .non, v, _, h => by rw [show v = _ from h]; rfl
  | .bl _, v, _, h => by rw [show v = _ from h]; rfl
  | .int _, v, _, h => by rw [show v = _ from h]; rfl
  | .str _, v, _, h => by rw [show v = _ from h]; rfl
theorem fl_eq : ∀ {d e : D} {v w : V}, fl d = true → fl e = true → Rp X.K G d v → Rp X.K G e w → eqV v w = eqD d e := by
  intro d e v w h1 h2 r1 r2
  cases d <;> first | (exact absurd h1 Bool.false_ne_true) | skip
  all_goals cases e <;> first | (exact absurd h2 Bool.false_ne_true) | skip
  all_goals (have z1 := (show v = _ from r1); have z2 := (show w = _ from r2); subst z1 z2; rfl)
theorem eqAt_D (I : Inv X pins sg H s) (fz : Exz G H) (nz : Nz G) (n : Nat) : ∀ (d e : D) (A : Around) (v w : V) (u u' : Value), pl n d = true → pl n e = true → Rp X.K G d v → Rp X.K G e w → RelV v u → RelV w u' → A.units + n < cLine → EqAt A s u u' (eqD d e) := by
  have flat : ∀ (A : Around) (d e : D) (v w : V) (u u' : Value), RelV v u → RelV w u' → flatV v = true → flatV w = true → eqV v w = eqD d e → EqAt A s u u' (eqD d e) := fun A d e v w u u' r1 r2 f1 f2 q => q ▸ eqAt_V r1 r2 f1 f2
  induction n with
  | zero =>
    intro d e A v w u u' h1 h2 r1 r2 q1 q2 hu
    cases d <;> first | (exact absurd h1 Bool.false_ne_true) | skip
    all_goals cases e <;> first | (exact absurd h2 Bool.false_ne_true) | skip
    all_goals (have z1 := (show v = _ from r1); have z2 := (show w = _ from r2); subst z1 z2; exact flat A _ _ _ _ _ _ q1 q2 rfl rfl rfl)
  | succ n ih =>
    intro d e A v w u u' h1 h2 r1 r2 q1 q2 hu
    have hu0 : A.units < cLine := by omega
    have lstf : ∀ {ds : List D} {e : D}, Rp X.K G (.lst ds) v → fl e = true → Rp X.K G e w → RelV v u → RelV w u' → EqAt A s u u' false := fun {ds e} r1 f r2 q1 q2 => by
      obtain ⟨a, xs, rfl, a1, a2⟩ := r1
      cases q1
      obtain ⟨its, t1, t2, _⟩ := I.list (.inl (fz.rd nz a1))
      exact (list_flat t2.isList hu0 q2 (fl_v f r2)).1
    have tupf : ∀ {ds : List D} {e : D}, Rp X.K G (.tup ds) v → fl e = true → Rp X.K G e w → RelV v u → RelV w u' → EqAt A s u u' false := fun {ds e} r1 f r2 q1 q2 => by
      obtain ⟨a, xs, rfl, a1, a2⟩ := r1
      cases q1
      obtain ⟨its, t1, t2, _⟩ := I.tuple (sqT_mono fz nz a1)
      exact (tup_flat t2 hu0 q2 (fl_v f r2)).1
    have flst : ∀ {ds : List D} {e : D}, Rp X.K G e v → fl e = true → Rp X.K G (.lst ds) w → RelV v u → RelV w u' → EqAt A s u u' false := fun {ds e} r1 f r2 q1 q2 => by
      obtain ⟨a, xs, rfl, a1, a2⟩ := r2
      cases q2
      obtain ⟨its, t1, t2, _⟩ := I.list (.inl (fz.rd nz a1))
      exact (list_flat t2.isList hu0 q1 (fl_v f r1)).2
    have ftup : ∀ {ds : List D} {e : D}, Rp X.K G e v → fl e = true → Rp X.K G (.tup ds) w → RelV v u → RelV w u' → EqAt A s u u' false := fun {ds e} r1 f r2 q1 q2 => by
      obtain ⟨a, xs, rfl, a1, a2⟩ := r2
      cases q2
      obtain ⟨its, t1, t2, _⟩ := I.tuple (sqT_mono fz nz a1)
      exact (tup_flat t2 hu0 q1 (fl_v f r1)).2
    cases d <;> first | (exact absurd h1 Bool.false_ne_true) | skip
    all_goals cases e <;> first | (exact absurd h2 Bool.false_ne_true) | skip
    case lst.lst ds es =>
      by_cases hab : v = w
      · subst hab
        have hue : u = u' := by
          obtain ⟨a, xs, rfl, _⟩ := r1
          rw [show u = Value.ref a from q1, show u' = Value.ref a from q2]
        subst hue
        rw [eqD_same I fz nz (n + 1) _ _ v h1 h2 r1 r2]
        exact EqAt.same _
      · obtain ⟨a, xs, rfl, a1, a2⟩ := r1
        obtain ⟨b, ys, rfl, b1, b2⟩ := r2
        cases q1
        cases q2
        obtain ⟨its, t1, t2, _⟩ := I.list (.inl (fz.rd nz a1))
        obtain ⟨its2, t3, t4, _⟩ := I.list (.inl (fz.rd nz b1))
        have l1 : its.toArray.size = ds.length := by rw [List.size_toArray, ← t1.length, rpl_len a2]
        have l2 : its2.toArray.size = es.length := by rw [List.size_toArray, ← t3.length, rpl_len b2]
        show EqAt A s _ _ (eqL ds es)
        by_cases hl : ds.length = es.length
        · rw [eqL_all ds es hl, ← l1]
          exact EqAt.of_refs (fun z => hab (by rw [z])) (RcAt.lists t2.isList t4.isList (by omega) hu0 (items_eq ih h1 h2 a2 b2 t1 t3 hu))
        · rw [eqL_ne hl]
          exact EqAt.of_refs (fun z => hab (by rw [z])) (RcAt.lists_lengths t2.isList t4.isList (by simp only [bne_iff_ne]; omega) hu0)
    case tup.tup ds es =>
      by_cases hab : v = w
      · subst hab
        have hue : u = u' := by
          obtain ⟨a, xs, rfl, _⟩ := r1
          rw [show u = Value.ref a from q1, show u' = Value.ref a from q2]
        subst hue
        rw [eqD_same I fz nz (n + 1) _ _ v h1 h2 r1 r2]
        exact EqAt.same _
      · obtain ⟨a, xs, rfl, a1, a2⟩ := r1
        obtain ⟨b, ys, rfl, b1, b2⟩ := r2
        cases q1
        cases q2
        obtain ⟨its, t1, t2, _⟩ := I.tuple (sqT_mono fz nz a1)
        obtain ⟨its2, t3, t4, _⟩ := I.tuple (sqT_mono fz nz b1)
        have l1 : its.toArray.size = ds.length := by rw [List.size_toArray, ← t1.length, rpl_len a2]
        have l2 : its2.toArray.size = es.length := by rw [List.size_toArray, ← t3.length, rpl_len b2]
        have main := RcAt.tuples t2 t4 hu0 (items_eq ih h1 h2 a2 b2 t1 t3 hu)
        have key : ((List.range (min its.toArray.size its2.toArray.size)).all (fun j => eqD (ds.getD j .non) (es.getD j .non)) && its.toArray.size == its2.toArray.size) = eqL ds es := by
          by_cases hl : ds.length = es.length
          · rw [eqL_all ds es hl, l1, l2, hl]
            simp
          · rw [eqL_ne hl, l1, l2]
            simp [hl]
        rw [key] at main
        exact EqAt.of_refs (fun z => hab (by rw [z])) main
    case lst.tup ds es =>
      obtain ⟨a, xs, rfl, a1, a2⟩ := r1
      obtain ⟨b, ys, rfl, b1, b2⟩ := r2
      cases q1
      cases q2
      obtain ⟨its, t1, t2, _⟩ := I.list (.inl (fz.rd nz a1))
      obtain ⟨its2, t3, t4, _⟩ := I.tuple (sqT_mono fz nz b1)
      exact EqAt.list_tuple t2.isList t4 hu0
    case tup.lst ds es =>
      obtain ⟨a, xs, rfl, a1, a2⟩ := r1
      obtain ⟨b, ys, rfl, b1, b2⟩ := r2
      cases q1
      cases q2
      obtain ⟨its, t1, t2, _⟩ := I.tuple (sqT_mono fz nz a1)
      obtain ⟨its2, t3, t4, _⟩ := I.list (.inl (fz.rd nz b1))
      exact EqAt.tuple_list t2 t4.isList hu0
    case lst.non => exact lstf r1 rfl r2 q1 q2
    case lst.bl => exact lstf r1 rfl r2 q1 q2
    case lst.int => exact lstf r1 rfl r2 q1 q2
    case lst.str => exact lstf r1 rfl r2 q1 q2
    case tup.non => exact tupf r1 rfl r2 q1 q2
    case tup.bl => exact tupf r1 rfl r2 q1 q2
    case tup.int => exact tupf r1 rfl r2 q1 q2
    case tup.str => exact tupf r1 rfl r2 q1 q2
    case non.lst => exact flst r1 rfl r2 q1 q2
    case bl.lst => exact flst r1 rfl r2 q1 q2
    case int.lst => exact flst r1 rfl r2 q1 q2
    case str.lst => exact flst r1 rfl r2 q1 q2
    case non.tup => exact ftup r1 rfl r2 q1 q2
    case bl.tup => exact ftup r1 rfl r2 q1 q2
    case int.tup => exact ftup r1 rfl r2 q1 q2
    case str.tup => exact ftup r1 rfl r2 q1 q2
    all_goals (have z1 := (show v = _ from r1); have z2 := (show w = _ from r2); subst z1 z2; exact flat A _ _ _ _ _ _ q1 q2 rfl rfl rfl)
end
end DL

/-! DQ: == and != of data, at the top (printed by gen_eq.py, own work). -/
namespace DL
open PySem L2 PySem.SeqAt
section
variable {X : Cx} {pins : List (Addr × Obj)} {sg : L2.St} {H G : Hp} {s : Shared}

theorem rc_flat {A : Around} : ∀ {v w : V} {u u' : Value}, RelV v u → RelV w u' → flatV v = true → flatV w = true → RcAt A s u u' (eqV v w)
  | .non, .non, u, u', r1, r2, _, _ => by
    cases r1
    cases r2
    exact RcAt.none_none
  | .non, .bl b2, u, u', r1, r2, _, _ => by
    cases r1
    cases r2
    exact RcAt.none_bool b2
  | .non, .int i2, u, u', r1, r2, _, _ => by
    cases r1
    obtain ⟨t2, rfl⟩ := r2
    exact RcAt.none_int i2 t2
  | .non, .str z2, u, u', r1, r2, _, _ => by
    cases r1
    obtain ⟨t2, rfl⟩ := r2
    exact RcAt.none_str z2 t2
  | .bl b1, .non, u, u', r1, r2, _, _ => by
    cases r1
    cases r2
    exact RcAt.bool_none b1
  | .bl b1, .bl b2, u, u', r1, r2, _, _ => by
    cases r1
    cases r2
    exact RcAt.bool_bool b1 b2
  | .bl b1, .int i2, u, u', r1, r2, _, _ => by
    cases r1
    obtain ⟨t2, rfl⟩ := r2
    exact RcAt.bool_int b1 i2 t2
  | .bl b1, .str z2, u, u', r1, r2, _, _ => by
    cases r1
    obtain ⟨t2, rfl⟩ := r2
    exact RcAt.bool_str b1 z2 t2
  | .int i1, .non, u, u', r1, r2, _, _ => by
    obtain ⟨t1, rfl⟩ := r1
    cases r2
    exact RcAt.int_none i1 t1
  | .int i1, .bl b2, u, u', r1, r2, _, _ => by
    obtain ⟨t1, rfl⟩ := r1
    cases r2
    exact RcAt.int_bool i1 t1 b2
  | .int i1, .int i2, u, u', r1, r2, _, _ => by
    obtain ⟨t1, rfl⟩ := r1
    obtain ⟨t2, rfl⟩ := r2
    exact RcAt.int_int i1 t1 i2 t2
  | .int i1, .str z2, u, u', r1, r2, _, _ => by
    obtain ⟨t1, rfl⟩ := r1
    obtain ⟨t2, rfl⟩ := r2
    exact RcAt.int_str i1 t1 z2 t2
  | .str z1, .non, u, u', r1, r2, _, _ => by
    obtain ⟨t1, rfl⟩ := r1
    cases r2
    exact RcAt.str_none z1 t1
  | .str z1, .bl b2, u, u', r1, r2, _, _ => by
    obtain ⟨t1, rfl⟩ := r1
    cases r2
    exact RcAt.str_bool z1 t1 b2
  | .str z1, .int i2, u, u', r1, r2, _, _ => by
    obtain ⟨t1, rfl⟩ := r1
    obtain ⟨t2, rfl⟩ := r2
    exact RcAt.str_int z1 t1 i2 t2
  | .str z1, .str z2, u, u', r1, r2, _, _ => by
    obtain ⟨t1, rfl⟩ := r1
    obtain ⟨t2, rfl⟩ := r2
    exact RcAt.str_str z1 t1 z2 t2
  | .byt _, _, _, _, _, _, f, _ => absurd f Bool.false_ne_true
  | .flt _, _, _, _, _, _, f, _ => absurd f Bool.false_ne_true
  | .ref _, _, _, _, _, _, f, _ => absurd f Bool.false_ne_true
  | .ty _, _, _, _, _, _, f, _ => absurd f Bool.false_ne_true
  | .non, .byt _, _, _, _, _, _, f => absurd f Bool.false_ne_true
  | .bl _, .byt _, _, _, _, _, _, f => absurd f Bool.false_ne_true
  | .int _, .byt _, _, _, _, _, _, f => absurd f Bool.false_ne_true
  | .str _, .byt _, _, _, _, _, _, f => absurd f Bool.false_ne_true
  | .non, .flt _, _, _, _, _, _, f => absurd f Bool.false_ne_true
  | .bl _, .flt _, _, _, _, _, _, f => absurd f Bool.false_ne_true
  | .int _, .flt _, _, _, _, _, _, f => absurd f Bool.false_ne_true
  | .str _, .flt _, _, _, _, _, _, f => absurd f Bool.false_ne_true
  | .non, .ref _, _, _, _, _, _, f => absurd f Bool.false_ne_true
  | .bl _, .ref _, _, _, _, _, _, f => absurd f Bool.false_ne_true
  | .int _, .ref _, _, _, _, _, _, f => absurd f Bool.false_ne_true
  | .str _, .ref _, _, _, _, _, _, f => absurd f Bool.false_ne_true
  | .non, .ty _, _, _, _, _, _, f => absurd f Bool.false_ne_true
  | .bl _, .ty _, _, _, _, _, _, f => absurd f Bool.false_ne_true
  | .int _, .ty _, _, _, _, _, _, f => absurd f Bool.false_ne_true
  | .str _, .ty _, _, _, _, _, _, f => absurd f Bool.false_ne_true
theorem rc_list {A : Around} {a : Addr} {its : Array Value} (h : s.heap.IsList a its) (hu : A.units < cLine) : ∀ {w : V} {u : Value}, RelV w u → flatV w = true → RcAt A s (.ref a) u false ∧ RcAt A s u (.ref a) false
  | .non, u, r, _ => by
    cases r
    exact ⟨RcAt.list_none h hu, RcAt.none_list h hu⟩
  | .bl b2, u, r, _ => by
    cases r
    exact ⟨RcAt.list_bool b2 h hu, RcAt.bool_list b2 h hu⟩
  | .int i2, u, r, _ => by
    obtain ⟨t2, rfl⟩ := r
    exact ⟨RcAt.list_int i2 t2 h hu, RcAt.int_list i2 t2 h hu⟩
  | .str z2, u, r, _ => by
    obtain ⟨t2, rfl⟩ := r
    exact ⟨RcAt.list_str z2 t2 h hu, RcAt.str_list z2 t2 h hu⟩
  | .byt _, _, _, f => absurd f Bool.false_ne_true
  | .flt _, _, _, f => absurd f Bool.false_ne_true
  | .ref _, _, _, f => absurd f Bool.false_ne_true
  | .ty _, _, _, f => absurd f Bool.false_ne_true
theorem rc_tuple {A : Around} {a : Addr} {its : Array Value} (h : s.heap.IsTuple a its) (hu : A.units < cLine) : ∀ {w : V} {u : Value}, RelV w u → flatV w = true → RcAt A s (.ref a) u false ∧ RcAt A s u (.ref a) false
  | .non, u, r, _ => by
    cases r
    exact ⟨RcAt.tuple_none h hu, RcAt.none_tuple h hu⟩
  | .bl b2, u, r, _ => by
    cases r
    exact ⟨RcAt.tuple_bool b2 h hu, RcAt.bool_tuple b2 h hu⟩
  | .int i2, u, r, _ => by
    obtain ⟨t2, rfl⟩ := r
    exact ⟨RcAt.tuple_int i2 t2 h hu, RcAt.int_tuple i2 t2 h hu⟩
  | .str z2, u, r, _ => by
    obtain ⟨t2, rfl⟩ := r
    exact ⟨RcAt.tuple_str z2 t2 h hu, RcAt.str_tuple z2 t2 h hu⟩
  | .byt _, _, _, f => absurd f Bool.false_ne_true
  | .flt _, _, _, f => absurd f Bool.false_ne_true
  | .ref _, _, _, f => absurd f Bool.false_ne_true
  | .ty _, _, _, f => absurd f Bool.false_ne_true
theorem rc_D (I : Inv X pins sg H s) (fz : Exz G H) (nz : Nz G) (n : Nat) (d e : D) (A : Around) (v w : V) (u u' : Value) (h1 : pl (n + 1) d = true) (h2 : pl (n + 1) e = true) (r1 : Rp X.K G d v) (r2 : Rp X.K G e w) (q1 : RelV v u) (q2 : RelV w u') (hu : A.units + (n + 1) < cLine) : RcAt A s u u' (eqD d e) := by
  have hu0 : A.units < cLine := by omega
  have ih := eqAt_D (X := X) I fz nz n
  have lstf : ∀ {ds : List D} {e : D}, Rp X.K G (.lst ds) v → fl e = true → Rp X.K G e w → RcAt A s u u' false := fun {ds e} r1 f r2 => by
    obtain ⟨a, xs, rfl, a1, a2⟩ := r1
    cases q1
    obtain ⟨its, t1, t2, _⟩ := I.list (.inl (fz.rd nz a1))
    exact (rc_list t2.isList hu0 q2 (fl_v f r2)).1
  have tupf : ∀ {ds : List D} {e : D}, Rp X.K G (.tup ds) v → fl e = true → Rp X.K G e w → RcAt A s u u' false := fun {ds e} r1 f r2 => by
    obtain ⟨a, xs, rfl, a1, a2⟩ := r1
    cases q1
    obtain ⟨its, t1, t2, _⟩ := I.tuple (sqT_mono fz nz a1)
    exact (rc_tuple t2 hu0 q2 (fl_v f r2)).1
  have flst : ∀ {ds : List D} {e : D}, Rp X.K G e v → fl e = true → Rp X.K G (.lst ds) w → RcAt A s u u' false := fun {ds e} r1 f r2 => by
    obtain ⟨a, xs, rfl, a1, a2⟩ := r2
    cases q2
    obtain ⟨its, t1, t2, _⟩ := I.list (.inl (fz.rd nz a1))
    exact (rc_list t2.isList hu0 q1 (fl_v f r1)).2
  have ftup : ∀ {ds : List D} {e : D}, Rp X.K G e v → fl e = true → Rp X.K G (.tup ds) w → RcAt A s u u' false := fun {ds e} r1 f r2 => by
    obtain ⟨a, xs, rfl, a1, a2⟩ := r2
    cases q2
    obtain ⟨its, t1, t2, _⟩ := I.tuple (sqT_mono fz nz a1)
    exact (rc_tuple t2 hu0 q1 (fl_v f r1)).2
  have flat : ∀ {d e : D}, fl d = true → fl e = true → Rp X.K G d v → Rp X.K G e w → RcAt A s u u' (eqD d e) := fun {d e} f1 f2 r1 r2 => by
    have z := rc_flat (A := A) (s := s) q1 q2 (fl_v f1 r1) (fl_v f2 r2)
    rw [fl_eq f1 f2 r1 r2] at z
    exact z
  cases d <;> first | (exact absurd h1 Bool.false_ne_true) | skip
  all_goals cases e <;> first | (exact absurd h2 Bool.false_ne_true) | skip
  case lst.lst ds es =>
    obtain ⟨a, xs, rfl, a1, a2⟩ := r1
    obtain ⟨b, ys, rfl, b1, b2⟩ := r2
    cases q1
    cases q2
    obtain ⟨its, t1, t2, _⟩ := I.list (.inl (fz.rd nz a1))
    obtain ⟨its2, t3, t4, _⟩ := I.list (.inl (fz.rd nz b1))
    have l1 : its.toArray.size = ds.length := by rw [List.size_toArray, ← t1.length, rpl_len a2]
    have l2 : its2.toArray.size = es.length := by rw [List.size_toArray, ← t3.length, rpl_len b2]
    show RcAt A s _ _ (eqL ds es)
    by_cases hl : ds.length = es.length
    · rw [eqL_all ds es hl, ← l1]
      exact RcAt.lists t2.isList t4.isList (by omega) hu0 (items_eq ih h1 h2 a2 b2 t1 t3 hu)
    · rw [eqL_ne hl]
      exact RcAt.lists_lengths t2.isList t4.isList (by simp only [bne_iff_ne]; omega) hu0
  case tup.tup ds es =>
    obtain ⟨a, xs, rfl, a1, a2⟩ := r1
    obtain ⟨b, ys, rfl, b1, b2⟩ := r2
    cases q1
    cases q2
    obtain ⟨its, t1, t2, _⟩ := I.tuple (sqT_mono fz nz a1)
    obtain ⟨its2, t3, t4, _⟩ := I.tuple (sqT_mono fz nz b1)
    have l1 : its.toArray.size = ds.length := by rw [List.size_toArray, ← t1.length, rpl_len a2]
    have l2 : its2.toArray.size = es.length := by rw [List.size_toArray, ← t3.length, rpl_len b2]
    have main := RcAt.tuples t2 t4 hu0 (items_eq ih h1 h2 a2 b2 t1 t3 hu)
    have key : ((List.range (min its.toArray.size its2.toArray.size)).all (fun j => eqD (ds.getD j .non) (es.getD j .non)) && its.toArray.size == its2.toArray.size) = eqL ds es := by
      by_cases hl : ds.length = es.length
      · rw [eqL_all ds es hl, l1, l2, hl]
        simp
      · rw [eqL_ne hl, l1, l2]
        simp [hl]
    rw [key] at main
    exact main
  case lst.tup ds es =>
    obtain ⟨a, xs, rfl, a1, a2⟩ := r1
    obtain ⟨b, ys, rfl, b1, b2⟩ := r2
    cases q1
    cases q2
    obtain ⟨its, t1, t2, _⟩ := I.list (.inl (fz.rd nz a1))
    obtain ⟨its2, t3, t4, _⟩ := I.tuple (sqT_mono fz nz b1)
    exact RcAt.list_tuple t2.isList t4 hu0
  case tup.lst ds es =>
    obtain ⟨a, xs, rfl, a1, a2⟩ := r1
    obtain ⟨b, ys, rfl, b1, b2⟩ := r2
    cases q1
    cases q2
    obtain ⟨its, t1, t2, _⟩ := I.tuple (sqT_mono fz nz a1)
    obtain ⟨its2, t3, t4, _⟩ := I.list (.inl (fz.rd nz b1))
    exact RcAt.tuple_list t2 t4.isList hu0
  case lst.non => exact lstf r1 rfl r2
  case tup.non => exact tupf r1 rfl r2
  case non.lst => exact flst r1 rfl r2
  case non.tup => exact ftup r1 rfl r2
  case lst.bl => exact lstf r1 rfl r2
  case tup.bl => exact tupf r1 rfl r2
  case bl.lst => exact flst r1 rfl r2
  case bl.tup => exact ftup r1 rfl r2
  case lst.int => exact lstf r1 rfl r2
  case tup.int => exact tupf r1 rfl r2
  case int.lst => exact flst r1 rfl r2
  case int.tup => exact ftup r1 rfl r2
  case lst.str => exact lstf r1 rfl r2
  case tup.str => exact tupf r1 rfl r2
  case str.lst => exact flst r1 rfl r2
  case str.tup => exact ftup r1 rfl r2
  all_goals exact flat rfl rfl r1 r2
theorem rn_flat {A : Around} : ∀ {v w : V} {u u' : Value}, RelV v u → RelV w u' → flatV v = true → flatV w = true → RcNeAt A s u u' (!eqV v w)
  | .non, .non, u, u', r1, r2, _, _ => by
    cases r1
    cases r2
    exact RcNeAt.none_none
  | .non, .bl b2, u, u', r1, r2, _, _ => by
    cases r1
    cases r2
    exact RcNeAt.none_bool b2
  | .non, .int i2, u, u', r1, r2, _, _ => by
    cases r1
    obtain ⟨t2, rfl⟩ := r2
    exact RcNeAt.none_int i2 t2
  | .non, .str z2, u, u', r1, r2, _, _ => by
    cases r1
    obtain ⟨t2, rfl⟩ := r2
    exact RcNeAt.none_str z2 t2
  | .bl b1, .non, u, u', r1, r2, _, _ => by
    cases r1
    cases r2
    exact RcNeAt.bool_none b1
  | .bl b1, .bl b2, u, u', r1, r2, _, _ => by
    cases r1
    cases r2
    exact RcNeAt.bool_bool b1 b2
  | .bl b1, .int i2, u, u', r1, r2, _, _ => by
    cases r1
    obtain ⟨t2, rfl⟩ := r2
    exact RcNeAt.bool_int b1 i2 t2
  | .bl b1, .str z2, u, u', r1, r2, _, _ => by
    cases r1
    obtain ⟨t2, rfl⟩ := r2
    exact RcNeAt.bool_str b1 z2 t2
  | .int i1, .non, u, u', r1, r2, _, _ => by
    obtain ⟨t1, rfl⟩ := r1
    cases r2
    exact RcNeAt.int_none i1 t1
  | .int i1, .bl b2, u, u', r1, r2, _, _ => by
    obtain ⟨t1, rfl⟩ := r1
    cases r2
    exact RcNeAt.int_bool i1 t1 b2
  | .int i1, .int i2, u, u', r1, r2, _, _ => by
    obtain ⟨t1, rfl⟩ := r1
    obtain ⟨t2, rfl⟩ := r2
    exact RcNeAt.int_int i1 t1 i2 t2
  | .int i1, .str z2, u, u', r1, r2, _, _ => by
    obtain ⟨t1, rfl⟩ := r1
    obtain ⟨t2, rfl⟩ := r2
    exact RcNeAt.int_str i1 t1 z2 t2
  | .str z1, .non, u, u', r1, r2, _, _ => by
    obtain ⟨t1, rfl⟩ := r1
    cases r2
    exact RcNeAt.str_none z1 t1
  | .str z1, .bl b2, u, u', r1, r2, _, _ => by
    obtain ⟨t1, rfl⟩ := r1
    cases r2
    exact RcNeAt.str_bool z1 t1 b2
  | .str z1, .int i2, u, u', r1, r2, _, _ => by
    obtain ⟨t1, rfl⟩ := r1
    obtain ⟨t2, rfl⟩ := r2
    exact RcNeAt.str_int z1 t1 i2 t2
  | .str z1, .str z2, u, u', r1, r2, _, _ => by
    obtain ⟨t1, rfl⟩ := r1
    obtain ⟨t2, rfl⟩ := r2
    exact RcNeAt.str_str z1 t1 z2 t2
  | .byt _, _, _, _, _, _, f, _ => absurd f Bool.false_ne_true
  | .flt _, _, _, _, _, _, f, _ => absurd f Bool.false_ne_true
  | .ref _, _, _, _, _, _, f, _ => absurd f Bool.false_ne_true
  | .ty _, _, _, _, _, _, f, _ => absurd f Bool.false_ne_true
  | .non, .byt _, _, _, _, _, _, f => absurd f Bool.false_ne_true
  | .bl _, .byt _, _, _, _, _, _, f => absurd f Bool.false_ne_true
  | .int _, .byt _, _, _, _, _, _, f => absurd f Bool.false_ne_true
  | .str _, .byt _, _, _, _, _, _, f => absurd f Bool.false_ne_true
  | .non, .flt _, _, _, _, _, _, f => absurd f Bool.false_ne_true
  | .bl _, .flt _, _, _, _, _, _, f => absurd f Bool.false_ne_true
  | .int _, .flt _, _, _, _, _, _, f => absurd f Bool.false_ne_true
  | .str _, .flt _, _, _, _, _, _, f => absurd f Bool.false_ne_true
  | .non, .ref _, _, _, _, _, _, f => absurd f Bool.false_ne_true
  | .bl _, .ref _, _, _, _, _, _, f => absurd f Bool.false_ne_true
  | .int _, .ref _, _, _, _, _, _, f => absurd f Bool.false_ne_true
  | .str _, .ref _, _, _, _, _, _, f => absurd f Bool.false_ne_true
  | .non, .ty _, _, _, _, _, _, f => absurd f Bool.false_ne_true
  | .bl _, .ty _, _, _, _, _, _, f => absurd f Bool.false_ne_true
  | .int _, .ty _, _, _, _, _, _, f => absurd f Bool.false_ne_true
  | .str _, .ty _, _, _, _, _, _, f => absurd f Bool.false_ne_true
theorem rn_list {A : Around} {a : Addr} {its : Array Value} (h : s.heap.IsList a its) (hu : A.units < cLine) : ∀ {w : V} {u : Value}, RelV w u → flatV w = true → RcNeAt A s (.ref a) u true ∧ RcNeAt A s u (.ref a) true
  | .non, u, r, _ => by
    cases r
    exact ⟨RcNeAt.list_none h hu, RcNeAt.none_list h hu⟩
  | .bl b2, u, r, _ => by
    cases r
    exact ⟨RcNeAt.list_bool b2 h hu, RcNeAt.bool_list b2 h hu⟩
  | .int i2, u, r, _ => by
    obtain ⟨t2, rfl⟩ := r
    exact ⟨RcNeAt.list_int i2 t2 h hu, RcNeAt.int_list i2 t2 h hu⟩
  | .str z2, u, r, _ => by
    obtain ⟨t2, rfl⟩ := r
    exact ⟨RcNeAt.list_str z2 t2 h hu, RcNeAt.str_list z2 t2 h hu⟩
  | .byt _, _, _, f => absurd f Bool.false_ne_true
  | .flt _, _, _, f => absurd f Bool.false_ne_true
  | .ref _, _, _, f => absurd f Bool.false_ne_true
  | .ty _, _, _, f => absurd f Bool.false_ne_true
theorem rn_tuple {A : Around} {a : Addr} {its : Array Value} (h : s.heap.IsTuple a its) (hu : A.units < cLine) : ∀ {w : V} {u : Value}, RelV w u → flatV w = true → RcNeAt A s (.ref a) u true ∧ RcNeAt A s u (.ref a) true
  | .non, u, r, _ => by
    cases r
    exact ⟨RcNeAt.tuple_none h hu, RcNeAt.none_tuple h hu⟩
  | .bl b2, u, r, _ => by
    cases r
    exact ⟨RcNeAt.tuple_bool b2 h hu, RcNeAt.bool_tuple b2 h hu⟩
  | .int i2, u, r, _ => by
    obtain ⟨t2, rfl⟩ := r
    exact ⟨RcNeAt.tuple_int i2 t2 h hu, RcNeAt.int_tuple i2 t2 h hu⟩
  | .str z2, u, r, _ => by
    obtain ⟨t2, rfl⟩ := r
    exact ⟨RcNeAt.tuple_str z2 t2 h hu, RcNeAt.str_tuple z2 t2 h hu⟩
  | .byt _, _, _, f => absurd f Bool.false_ne_true
  | .flt _, _, _, f => absurd f Bool.false_ne_true
  | .ref _, _, _, f => absurd f Bool.false_ne_true
  | .ty _, _, _, f => absurd f Bool.false_ne_true
theorem rn_D (I : Inv X pins sg H s) (fz : Exz G H) (nz : Nz G) (n : Nat) (d e : D) (A : Around) (v w : V) (u u' : Value) (h1 : pl (n + 1) d = true) (h2 : pl (n + 1) e = true) (r1 : Rp X.K G d v) (r2 : Rp X.K G e w) (q1 : RelV v u) (q2 : RelV w u') (hu : A.units + (n + 1) < cLine) : RcNeAt A s u u' (!eqD d e) := by
  have hu0 : A.units < cLine := by omega
  have ih := eqAt_D (X := X) I fz nz n
  have lstf : ∀ {ds : List D} {e : D}, Rp X.K G (.lst ds) v → fl e = true → Rp X.K G e w → RcNeAt A s u u' true := fun {ds e} r1 f r2 => by
    obtain ⟨a, xs, rfl, a1, a2⟩ := r1
    cases q1
    obtain ⟨its, t1, t2, _⟩ := I.list (.inl (fz.rd nz a1))
    exact (rn_list t2.isList hu0 q2 (fl_v f r2)).1
  have tupf : ∀ {ds : List D} {e : D}, Rp X.K G (.tup ds) v → fl e = true → Rp X.K G e w → RcNeAt A s u u' true := fun {ds e} r1 f r2 => by
    obtain ⟨a, xs, rfl, a1, a2⟩ := r1
    cases q1
    obtain ⟨its, t1, t2, _⟩ := I.tuple (sqT_mono fz nz a1)
    exact (rn_tuple t2 hu0 q2 (fl_v f r2)).1
  have flst : ∀ {ds : List D} {e : D}, Rp X.K G e v → fl e = true → Rp X.K G (.lst ds) w → RcNeAt A s u u' true := fun {ds e} r1 f r2 => by
    obtain ⟨a, xs, rfl, a1, a2⟩ := r2
    cases q2
    obtain ⟨its, t1, t2, _⟩ := I.list (.inl (fz.rd nz a1))
    exact (rn_list t2.isList hu0 q1 (fl_v f r1)).2
  have ftup : ∀ {ds : List D} {e : D}, Rp X.K G e v → fl e = true → Rp X.K G (.tup ds) w → RcNeAt A s u u' true := fun {ds e} r1 f r2 => by
    obtain ⟨a, xs, rfl, a1, a2⟩ := r2
    cases q2
    obtain ⟨its, t1, t2, _⟩ := I.tuple (sqT_mono fz nz a1)
    exact (rn_tuple t2 hu0 q1 (fl_v f r1)).2
  have flat : ∀ {d e : D}, fl d = true → fl e = true → Rp X.K G d v → Rp X.K G e w → RcNeAt A s u u' (!eqD d e) := fun {d e} f1 f2 r1 r2 => by
    have z := rn_flat (A := A) (s := s) q1 q2 (fl_v f1 r1) (fl_v f2 r2)
    rw [fl_eq f1 f2 r1 r2] at z
    exact z
  cases d <;> first | (exact absurd h1 Bool.false_ne_true) | skip
  all_goals cases e <;> first | (exact absurd h2 Bool.false_ne_true) | skip
  case lst.lst ds es =>
    obtain ⟨a, xs, rfl, a1, a2⟩ := r1
    obtain ⟨b, ys, rfl, b1, b2⟩ := r2
    cases q1
    cases q2
    obtain ⟨its, t1, t2, _⟩ := I.list (.inl (fz.rd nz a1))
    obtain ⟨its2, t3, t4, _⟩ := I.list (.inl (fz.rd nz b1))
    have l1 : its.toArray.size = ds.length := by rw [List.size_toArray, ← t1.length, rpl_len a2]
    have l2 : its2.toArray.size = es.length := by rw [List.size_toArray, ← t3.length, rpl_len b2]
    show RcNeAt A s _ _ (!eqL ds es)
    by_cases hl : ds.length = es.length
    · rw [eqL_all ds es hl, ← l1]
      exact RcNeAt.lists t2.isList t4.isList (by omega) hu0 (items_eq ih h1 h2 a2 b2 t1 t3 hu)
    · rw [eqL_ne hl]
      exact RcNeAt.lists_lengths t2.isList t4.isList (by simp only [bne_iff_ne]; omega) hu0
  case tup.tup ds es =>
    obtain ⟨a, xs, rfl, a1, a2⟩ := r1
    obtain ⟨b, ys, rfl, b1, b2⟩ := r2
    cases q1
    cases q2
    obtain ⟨its, t1, t2, _⟩ := I.tuple (sqT_mono fz nz a1)
    obtain ⟨its2, t3, t4, _⟩ := I.tuple (sqT_mono fz nz b1)
    have l1 : its.toArray.size = ds.length := by rw [List.size_toArray, ← t1.length, rpl_len a2]
    have l2 : its2.toArray.size = es.length := by rw [List.size_toArray, ← t3.length, rpl_len b2]
    have main := RcNeAt.tuples t2 t4 hu0 (items_eq ih h1 h2 a2 b2 t1 t3 hu)
    have key : ((List.range (min its.toArray.size its2.toArray.size)).all (fun j => eqD (ds.getD j .non) (es.getD j .non)) && its.toArray.size == its2.toArray.size) = eqL ds es := by
      by_cases hl : ds.length = es.length
      · rw [eqL_all ds es hl, l1, l2, hl]
        simp
      · rw [eqL_ne hl, l1, l2]
        simp [hl]
    rw [key] at main
    exact main
  case lst.tup ds es =>
    obtain ⟨a, xs, rfl, a1, a2⟩ := r1
    obtain ⟨b, ys, rfl, b1, b2⟩ := r2
    cases q1
    cases q2
    obtain ⟨its, t1, t2, _⟩ := I.list (.inl (fz.rd nz a1))
    obtain ⟨its2, t3, t4, _⟩ := I.tuple (sqT_mono fz nz b1)
    exact RcNeAt.list_tuple t2.isList t4 hu0
  case tup.lst ds es =>
    obtain ⟨a, xs, rfl, a1, a2⟩ := r1
    obtain ⟨b, ys, rfl, b1, b2⟩ := r2
    cases q1
    cases q2
    obtain ⟨its, t1, t2, _⟩ := I.tuple (sqT_mono fz nz a1)
    obtain ⟨its2, t3, t4, _⟩ := I.list (.inl (fz.rd nz b1))
    exact RcNeAt.tuple_list t2 t4.isList hu0
  case lst.non => exact lstf r1 rfl r2
  case tup.non => exact tupf r1 rfl r2
  case non.lst => exact flst r1 rfl r2
  case non.tup => exact ftup r1 rfl r2
  case lst.bl => exact lstf r1 rfl r2
  case tup.bl => exact tupf r1 rfl r2
  case bl.lst => exact flst r1 rfl r2
  case bl.tup => exact ftup r1 rfl r2
  case lst.int => exact lstf r1 rfl r2
  case tup.int => exact tupf r1 rfl r2
  case int.lst => exact flst r1 rfl r2
  case int.tup => exact ftup r1 rfl r2
  case lst.str => exact lstf r1 rfl r2
  case tup.str => exact tupf r1 rfl r2
  case str.lst => exact flst r1 rfl r2
  case str.tup => exact ftup r1 rfl r2
  all_goals exact flat rfl rfl r1 r2
/-- == and != of plain data -/
def rEqP (K : PySem.W.Frag) (neg : Bool) : R2 := fun x y H Q => ∃ (n : Nat) (G : Hp) (d e : D), Exz G H ∧ Nz G ∧ n ≤ 60 ∧ pl (n + 1) d = true ∧ pl (n + 1) e = true ∧ Rp K G d x ∧ Rp K G e y ∧ Q (.bl (if neg then !eqD d e else eqD d e)) H
theorem op_eqP (hu : X.A.units + 64 < cLine) : OpR X (compareOp .Eq) (rEqP X.K false) := by
  intro pins s sg H x y v u Q I rx ry h
  obtain ⟨n, G, d, e, fz, nz, hn, p1, p2, r1, r2, q⟩ := h
  exact rc_D I fz nz n d e X.A x y v u p1 p2 r1 r2 rx ry (by omega) X.prog X.w X.xe _ ⟨.bl _, H, I, rfl, q⟩
theorem op_neP (hu : X.A.units + 64 < cLine) : OpR X (compareOp .NotEq) (rEqP X.K true) := by
  intro pins s sg H x y v u Q I rx ry h
  obtain ⟨n, G, d, e, fz, nz, hn, p1, p2, r1, r2, q⟩ := h
  exact rn_D I fz nz n d e X.A x y v u p1 p2 r1 r2 rx ry (by omega) X.prog X.w X.xe _ ⟨.bl _, H, I, rfl, q⟩
end
/-! ### by data -/
/-- w stands for the plain data d -/
inductive Pk (ka : Cells) : W → D → Prop where
  | v {d} : Pk ka (.val d) d
  | w {d} : Pk ka (.vw d) d
  | c {a ds} (j : Nat) (h : ka[j]? = some (a, .lst ds)) : Pk ka (.val (.adr a)) (.lst ds)
section
variable {K : PySem.W.Frag} {B F F0 : Hp} {ro : Ro} {ka : Cells} {ta : List (V × W)} {sg : L2.St} {H : Hp} {x y : W}
/-- what may be read with the cells' lists beside -/
def gH (H : Hp) : Hp := fun a => match H a with
  | some (.frz _ u) => if lk u then some u else none
  | z => z
theorem gH_nz : Nz (gH H) := fun a u h => by
  unfold gH at h
  split at h
  · split at h
    · rename_i hx
      cases h
      cases u <;> first | rfl | cases hx
    · cases h
  · rename_i z q
    cases u with
    | frz ob z => exact absurd h (q ob z)
    | _ => rfl
theorem gH_exz : Exz (gH H) H := fun a u h => by
  unfold gH at h
  split at h
  · rename_i ob x q
    split at h
    · rename_i hx
      cases h
      exact .inr ⟨hx, ob, q⟩
    · cases h
  · exact .inl h
theorem exz_gH {G : Hp} (e : Exz G H) (n : Nz G) : Exz G (gH H) := fun a u h => by
  refine .inl ?_
  have hu := n a u h
  unfold gH
  rcases e a u h with q | ⟨k, o, q⟩
  · rw [q]
    cases u with
    | frz o z => cases hu
    | _ => rfl
  · rw [q]
    show (if lk u then some u else none) = some u
    rw [k]
    rfl
theorem Pk.get {d : D} {v : V} (l : Pk ka x d) (e : EnF K B F ro ka ta sg H) (h : WOk K B F v x) : Rp K (gH H) d v := by
  cases l with
  | v => exact Rp.mono (exz_gH e.fz e.nz) e.nz d v h
  | w => exact Rp.mono (exz_gH (uni_exz e.fz e.fr) (uni_nz e.nz)) (uni_nz e.nz) d v h
  | @c a ds j hj =>
    obtain ⟨_, _, xs, h1, h2⟩ := e.ce _ (List.mem_of_getElem? hj)
    have hv : v = .ref a := h
    refine ⟨a, xs, hv, .inl ?_, RpL.mono (exz_gH e.fz e.nz) e.nz _ _ h2⟩
    unfold gH
    rw [h1]
theorem rv_eqP {d e : D} (l1 : Pk ka x d) (l2 : Pk ka y e) (p1 : pl 61 d = true) (p2 : pl 61 e = true) : RvD K (rEqP K false) ka x y (.val (.bl (eqD d e))) := fun B F0 ro ta sg H u v Q en h1 h2 q => by
  obtain ⟨F, g, ef⟩ := id en
  exact ⟨60, gH H, d, e, gH_exz, gH_nz, Nat.le_refl _, p1, p2, l1.get ef (ef.tm _ h1), l2.get ef (ef.tm _ h2), q _ _ (en.push_imm fun _ => rfl)⟩
theorem rv_neP {d e : D} (l1 : Pk ka x d) (l2 : Pk ka y e) (p1 : pl 61 d = true) (p2 : pl 61 e = true) : RvD K (rEqP K true) ka x y (.val (.bl (!eqD d e))) := fun B F0 ro ta sg H u v Q en h1 h2 q => by
  obtain ⟨F, g, ef⟩ := id en
  exact ⟨60, gH H, d, e, gH_exz, gH_nz, Nat.le_refl _, p1, p2, l1.get ef (ef.tm _ h1), l2.get ef (ef.tm _ h2), q _ _ (en.push_imm fun _ => rfl)⟩
end
end DL

/-! DO: operators that a class of the text defines (own work). -/
namespace DL
open PySem L2 PySem.W

section
variable {X : Cx} {CX : CXT} {k : Nat} {C f : Addr} {fd : FuncData} {ps : List Str} {sp : Sp} {E : XK}
/-- the same state, seen from other surroundings of the same frames -/
theorem inv_moved {A : Around} {pins : List (Addr × Obj)} {s : Shared} {sg : L2.St} {H : Hp} (I : L2.Inv X pins sg H s) (hd : X.calm = true → A.handled = none) (ha : A.frames = X.A.frames) : L2.Inv { X with A := A } pins sg H s :=
  { I with ok := { I.ok with hd := hd, frames := ha.trans I.ok.frames } }
/-- a def of the text, called within a built-in's work: the library's run_fn in the surroundings moved there -/
theorem run_fn {A : Around} {pins : List (Addr × Obj)} {s : Shared} {sg : L2.St} {H : Hp} {vs : List V} {us : List Value} {Q : VK} (F : FnOk X.prog X.w X.K X.mg X.base CX k f fd ps sp) (hr : Room k A) (ha : A.frames = X.A.frames)
    (hb : Binds X.K fd ps []) (hx : Passes CX X E) (I : L2.Inv X pins sg H s) (rv : Vals vs us) (h : sp vs H Q E) : wpAny (model X.prog X.w) A (call (.ref f) us) (EP X pins sg Q) X.xe s := by
  have home : ∀ {pn : List (Addr × Obj)} {σ : L2.St} {H0 : Hp} {s0 : Shared}, L2.Inv { X with A := A } pn σ H0 s0 → L2.Inv X pn σ H0 s0 := fun J => inv_moved (X := { X with A := A }) (A := X.A) J I.ok.hd ha.symm
  have there := L2.run_fn (X := { X with A := A }) (dvs := []) (ds := []) (vs := vs) (us := us) (Q := Q) (E := E) F hr hb .nil (fun pn σ H0 s0 e s' J c => hx pn σ H0 s0 e s' (home J) c) (inv_moved I (fun _ => hr.hd) ha) rv (by rw [List.append_nil]; exact h)
  exact wpAny_mono there (fun u s2 ⟨v, H', J, r, q⟩ => ⟨v, H', home J, r, q⟩) fun _ _ z => z
/-- where an instance stands, for the library's rules -/
theorem inst_at {pins : List (Addr × Obj)} {s : Shared} {sg : L2.St} {H : Hp} {a dx : Addr} {fs : List (Str × V)} (I : Inv X pins sg H s) (h : H a = some (.ins C dx fs)) : ∃ od, PySem.W.InstAt s.heap a (PySem.W.instObj C dx) C (some od) := by
  obtain ⟨mA, J, _⟩ := ins_get I.hok h
  obtain ⟨od, J2, _⟩ := J.look
  exact ⟨od, J2⟩
/-- the special method m of the class at C is the def at f -/
structure Sm (K : PySem.W.Frag) (C : Addr) (m : Str) (f : Addr) : Prop where
  at_ : findIn K (.ref C) m = some (some (.ref f))
  fn : isFn K (.ref f) = true
/-- the type of a value, as the library looks for it -/
def TyL (X : Cx) (x : V) (H : Hp) (T : String) : Prop := ∀ pins s sg u, Inv X pins sg H s → RelV x u → Looks (model X.prog X.w) s.heap (typeOf u) (.type T)
/-- what the text says of a class's own operator, against a value of the built-in type T -/
structure Bo (K : PySem.W.Frag) (C : Addr) (op : Operator) (f : Addr) : Prop where
  first : selfFirst K C = true
  sm : Sm K C (PySem.dunder op.info.2) f
  refl : findIn K (.ref C) (dunderR op.info.2) = some none
structure BoT (K : PySem.W.Frag) (C : Addr) (op : Operator) (T : String) : Prop where
  l : ∃ fo, findIn K (.type T) (PySem.dunder op.info.2) = some fo
  r : ∃ ro, findIn K (.type T) (dunderR op.info.2) = some ro
  sub : subIn K (.type T) (.ref C) = some false
/-! ### == and != by the class's own __eq__ -/
/-- a type against which x's class goes first: a built-in one, or the class itself -/
inductive TyE (X : Cx) (C : Addr) (H : Hp) : V → Prop where
  | ty {y : V} {T : String} (h : TyL X y H T) (s : subIn X.K (.type T) (.ref C) = some false) : TyE X C H y
  | own {a dx : Addr} {fs : List (Str × V)} (h : H a = some (.ins C dx fs)) : TyE X C H (.ref a)
end
end DL

/-! DF: defs by contract, instances, exceptions by data (own work). -/
namespace DL
open PySem L2 PySem.W

/-! ### defs -/
/-- the def at f keeps the contract C -/
def Fn (P : Program) (w : World) (K : PySem.W.Frag) (mg : Str → Option Value) (base : Heap) (k : Nat) (f : Addr) (ps : List Str) (C : Ct) : Prop := ∃ fd, FnOk P w K mg base (L2.CX P w) k f fd ps (spC K C) ∧ Binds K fd ps []
section
variable {P : Program} {w : World} {K : PySem.W.Frag} {mg : Str → Option Value} {base : Heap} {f : Addr} {fd : FuncData} {x qual : Str} {params : Arguments} {body : List Stmt} {scope : Scope} {ps N : List Str} {k j : Nat} {C : Ct}
theorem Fn.up (F : Fn P w K mg base j f ps C) (h : j ≤ k) : Fn P w K mg base k f ps C := let ⟨fd, a, b⟩ := F; ⟨fd, a.mono h, b⟩
theorem fn_okG {dvs : List V} (F : FunD K x qual params body scope dvs [] f fd) (S : FnScope N ps scope)
    (hl : ∀ ws ka out, C ws ka out → ws.length = ps.length)
    (h : ∀ (cdv : Value) (A : Around) (outer : List Env) (s : Shared) (H : Hp) (E : XK), Room k (A.deeper (PyProof.Rows.envOfC qual scope s.heap.objs.size f cdv)) →
      ∃ t, PSs (cxOf (L2.CX P w) P w K mg base N qual scope f cdv A outer s H E) body t ∧
        ∀ ws ka out B F0 Q, C ws ka out → RtOk K B F0 out Q → RxOk K B F0 out E → Gp K B F0 [] (t { nx := fun _ H' => Q .non H', rt := Q }) (ws.map some ++ List.replicate (N.length - ps.length) none) ka) : FnOk P w K mg base (L2.CX P w) (k + 1) f fd ps (spC K C) := by
  refine (F.ok S (fun vs H Q E h => ?_) (fun cdv A outer s H vs Q E hr hs => ?_))
  · obtain ⟨B, F', ws, ka, out, hC, l, _⟩ := h
    rw [l]
    exact hl _ _ _ hC
  · obtain ⟨t, d, p⟩ := h cdv A outer s H E hr
    obtain ⟨B, F0, ws, ka, out, hC, l, ⟨F1, g1, en⟩, hR, hX⟩ := hs
    refine ⟨t, d, p ws ka out B F0 Q hC hR hX _ H ⟨F1, g1, ?_⟩⟩
    have hw := hl _ _ _ hC
    refine (en.frame (ro' := ws.map some ++ List.replicate (N.length - ps.length) none) (sg' := L2.start N vs) ?_ fun i w2 e => ?_).held fun p hp => by cases hp
    · unfold L2.start
      rw [List.length_append, List.length_append, List.length_map, List.length_map, List.length_replicate, List.length_replicate, l, hw]
    · unfold L2.start
      by_cases hi : i < ws.length
      · rw [List.getElem?_append_left (by rw [List.length_map]; exact hi), List.getElem?_map, List.getElem?_eq_getElem hi] at e
        have e' : ws[i] = w2 := by simpa using e
        rw [List.getElem?_append_left (by rw [List.length_map, l]; exact hi), List.getElem?_map, List.getElem?_eq_getElem (by rw [l]; exact hi)]
        refine ⟨vs[i], rfl, ?_⟩
        have := en.tm (vs[i]'(by rw [l]; exact hi), ws[i]) (by
          have hz : (vs.zip ws)[i]? = some (vs[i]'(by rw [l]; exact hi), ws[i]) := by
            rw [List.getElem?_zip_eq_some]
            exact ⟨List.getElem?_eq_getElem _, List.getElem?_eq_getElem _⟩
          exact List.mem_of_getElem? hz)
        rw [e'] at this
        exact this
      · rw [List.getElem?_append_right (by rw [List.length_map]; omega), List.getElem?_replicate] at e
        split at e <;> cases e
theorem fn_okF (F : FunD K x qual params body scope [] [] f fd) (S : FnScope N ps scope)
    (hb : ∀ (kV doc pm : Value) (an : Option Addr) (cdv ct : Value) (us : List Value), us.length = ps.length → bindArgs (PySem.W.fnOf x qual params body scope .none kV doc pm an cdv ct) ⟨us, []⟩ = pure (ps.zip us))
    (hl : ∀ ws ka out, C ws ka out → ws.length = ps.length)
    (h : ∀ (cdv : Value) (A : Around) (outer : List Env) (s : Shared) (H : Hp) (E : XK), Room k (A.deeper (PyProof.Rows.envOfC qual scope s.heap.objs.size f cdv)) →
      ∃ t, PSs (cxOf (L2.CX P w) P w K mg base N qual scope f cdv A outer s H E) body t ∧
        ∀ ws ka out B F0 Q, C ws ka out → RtOk K B F0 out Q → RxOk K B F0 out E → Gp K B F0 [] (t { nx := fun _ H' => Q .non H', rt := Q }) (ws.map some ++ List.replicate (N.length - ps.length) none) ka) : FnOk P w K mg base (L2.CX P w) (k + 1) f fd ps (spC K C) := fn_okG F S hl h
theorem fn_ok (F : FunD K x qual params body scope [] [] f fd) (S : FnScope N ps scope)
    (hb : ∀ (kV doc pm : Value) (an : Option Addr) (cdv ct : Value) (us : List Value), us.length = ps.length → bindArgs (PySem.W.fnOf x qual params body scope .none kV doc pm an cdv ct) ⟨us, []⟩ = pure (ps.zip us))
    (hl : ∀ ws ka out, C ws ka out → ws.length = ps.length)
    (h : ∀ (cdv : Value) (A : Around) (outer : List Env) (s : Shared) (H : Hp) (E : XK), Room k (A.deeper (PyProof.Rows.envOfC qual scope s.heap.objs.size f cdv)) →
      ∃ t, PSs (cxOf (L2.CX P w) P w K mg base N qual scope f cdv A outer s H E) body t ∧
        ∀ ws ka out B F0 Q, C ws ka out → RtOk K B F0 out Q → RxOk K B F0 out E → Gp K B F0 [] (t { nx := fun _ H' => Q .non H', rt := Q }) (ws.map some ++ List.replicate (N.length - ps.length) none) ka) : Fn P w K mg base (k + 1) f ps C := ⟨fd, fn_okF F S hb hl h, F.bindsN hb⟩
end
/-- the def behind a contract, and what is known of it -/
noncomputable def Fn.fd {P : Program} {w : World} {K : PySem.W.Frag} {mg : Str → Option Value} {base : Heap} {k : Nat} {f : Addr} {ps : List Str} {C : Ct} (F : Fn P w K mg base k f ps C) : FuncData := Classical.choose F
theorem Fn.ok {P : Program} {w : World} {K : PySem.W.Frag} {mg : Str → Option Value} {base : Heap} {k : Nat} {f : Addr} {ps : List Str} {C : Ct} (F : Fn P w K mg base k f ps C) : FnOk P w K mg base (L2.CX P w) k f F.fd ps (spC K C) := (Classical.choose_spec F).1
theorem Fn.bn {P : Program} {w : World} {K : PySem.W.Frag} {mg : Str → Option Value} {base : Heap} {k : Nat} {f : Addr} {ps : List Str} {C : Ct} (F : Fn P w K mg base k f ps C) : Binds K F.fd ps [] := (Classical.choose_spec F).2
section
variable {X : Cx}
theorem passes_no : Passes (L2.CX X.prog X.w) X (fun _ _ _ => False) := fun _ _ _ _ _ _ _ ⟨_, _, _, _, _, _, _, _, _, _, _, _, z⟩ => z.elim
end
end DL

/-! DG: instances by data (own work). -/
namespace DL
open PySem L2 PySem.W

section
variable {K : PySem.W.Frag} {B F F0 : Hp} {ro : Ro} {ka k1 k2 k3 kr : Cells} {ta : List (V × W)} {sg : L2.St} {H H' : Hp} {te tf tg : TE} {tr : TA} {tt : TT} {w x y z : W} {n : Nd} {C dx a : Addr} {fs : List (Str × D)} {b : Bool}

theorem rpf_lookup {F : Hp} : ∀ {fs : List (Str × D)} {xs : List (Str × V)} {f : Str} {d : D}, RpF K F fs xs → fs.lookup f = some d → ∃ v, xs.lookup f = some v ∧ Rp K F d v
  | [], _, _, _, _, e => by cases e
  | (g, d0) :: fs, xs, f, d, h, e => by
    obtain ⟨x, ys, rfl, h1, h2⟩ := h
    unfold List.lookup at e ⊢
    cases q : (f == g) with
    | true =>
      rw [q] at e
      cases e
      exact ⟨x, rfl, h1⟩
    | false =>
      rw [q] at e
      exact rpf_lookup h2 e
theorem rpf_none {F : Hp} : ∀ {fs : List (Str × D)} {xs : List (Str × V)} {f : Str}, RpF K F fs xs → fs.lookup f = none → xs.lookup f = none
  | [], xs, f, h, _ => by rw [show xs = [] from h]; rfl
  | (g, d0) :: fs, xs, f, h, e => by
    obtain ⟨x, ys, rfl, h1, h2⟩ := h
    unfold List.lookup at e ⊢
    cases q : (f == g) with
    | true => rw [q] at e; cases e
    | false => rw [q] at e; exact rpf_none h2 e
/-- w is an instance of the class at C with the fields fs; b: viewed -/
inductive Io (ka : Cells) : W → Addr → List (Str × D) → Bool → Prop where
  | v {D1 : Addr} {gs : List (Str × D)} : Io ka (.val (.ins D1 gs)) D1 gs false
  | w {D1 : Addr} {gs : List (Str × D)} : Io ka (.vw (.ins D1 gs)) D1 gs true
  | c {p D1 : Addr} {gs : List (Str × D)} (j : Nat) (h : ka[j]? = some (p, .ins D1 gs)) : Io ka (.val (.adr p)) D1 gs false
theorem rd_ins {H : Hp} {dx : Addr} {xs : List (Str × V)} (n : Nz F) (e : Exz F H) (h : Rd F a (.ins C dx xs)) : H a = some (.ins C dx xs) := by
  rcases h with h | ⟨o, h⟩
  · exact e.at h rfl
  · have := n a _ h
    cases this
/-- the built-in type of a value, by the abstract heap -/
inductive TyV (K : PySem.W.Frag) (H : Hp) : V → String → Prop where
  | non : TyV K H .non "NoneType"
  | bl {b : Bool} : TyV K H (.bl b) "bool"
  | int {b : Int} : TyV K H (.int b) "int"
  | str {b : Str} : TyV K H (.str b) "str"
  | lst {a : Addr} {xs : List V} (h : SqL K H a xs) : TyV K H (.ref a) "list"
  | tup {a : Addr} {xs : List V} (h : SqT K H a xs) : TyV K H (.ref a) "tuple"
inductive TyE2 (K : PySem.W.Frag) (C : Addr) (H : Hp) : V → Prop where
  | ty {y : V} {T : String} (h : TyV K H y T) (s : subIn K (.type T) (.ref C) = some false) : TyE2 K C H y
  | own {a dx : Addr} {gs : List (Str × V)} (h : H a = some (.ins C dx gs)) : TyE2 K C H (.ref a)
theorem Io.get {v : V} (l : Io ka w C fs b) (e : EnF K B F ro ka ta sg H) (h : WOk K B F v w) : ∃ a dx xs, v = .ref a ∧ H a = some (.ins C dx xs) ∧ RpF K (if b then uni B F else F) fs xs := by
  cases l with
  | v =>
    obtain ⟨a, dx, xs, rfl, h1, h2⟩ := h
    exact ⟨a, dx, xs, rfl, rd_ins e.nz e.fz h1, h2⟩
  | w =>
    obtain ⟨a, dx, xs, rfl, h1, h2⟩ := h
    exact ⟨a, dx, xs, rfl, rd_ins (uni_nz e.nz) (uni_exz e.fz e.fr) h1, h2⟩
  | @c a C fs j hj =>
    obtain ⟨_, _, dx, xs, h1, h2⟩ := e.ce _ (List.mem_of_getElem? hj)
    exact ⟨a, dx, xs, h, h1, h2⟩
theorem Io.en {v : V} (l : Io ka w C fs b) (e : En K B F0 ro ka ta sg H) (h : (v, w) ∈ ta) : ∃ a dx xs, v = .ref a ∧ H a = some (.ins C dx xs) := by
  obtain ⟨F, g, e⟩ := e
  obtain ⟨a, dx, xs, h1, h2, _⟩ := l.get e (e.tm _ h)
  exact ⟨a, dx, xs, h1, h2⟩
/-- o.f, a field -/
theorem ev_fld {f : Str} {d : D} (h : EvD K te ro ka w k1) (l : Io k1 w C fs b) (c : Cls K C) (nf : NoAttr K C f) (hd : fs.lookup f = some d) : EvD K (tFld K te f) ro ka (part b d) k1 := fun B F0 ta sg H Q e q => h B F0 ta sg H _ e fun v H1 e1 => by
  obtain ⟨F, g, e1⟩ := e1
  obtain ⟨a, dx, xs, rfl, h1, h2⟩ := l.get e1 (e1.tm _ List.mem_cons_self)
  obtain ⟨v, h3, h4⟩ := rpf_lookup h2 hd
  refine ⟨a, C, dx, xs, v, rfl, h1, c, nf, h3, q v H1 ⟨F, g, ?_⟩⟩
  exact (e1.held (ta' := ta) fun p hp => List.mem_cons_of_mem _ hp).push (wok_part b h4)

/-! ### calls by contract: how they end -/
/-- the call ends with an exception of the class C1 -/
theorem sp_exc {Cc : Ct} {ws : List W} {out : Out → Cells → Prop} {vs : List V} {E : XK} {Q : VK} {C1 : Addr} {fs : List (Str × D)} (e : En K B F0 ro (ka ++ kr) (vs.zip ws ++ ta) sg H) (hl : vs.length = ws.length) (hC : Cc ws ka out) (ho : ∀ o k, out o k → o = .exc C1 fs ∧ k = k2)
    (q : ∀ dx H', En K B F0 ro (k2 ++ [(dx, .xd fs)] ++ kr) ta sg H' → E (.ref C1) (some dx) H') : spC K Cc vs H Q E := by
  obtain ⟨F, g, e⟩ := e
  refine ⟨off H ka, F, ws, ka, out, hC, hl, ⟨F, Gr.refl _ _, e.into (ro' := []) (sg' := []) (ta' := vs.zip ws) rfl (fun i w h => by simp at h) fun p hp => List.mem_append_left _ hp⟩, fun d' k v H' o _ => ?_, fun C fs k dx H' o ⟨F', g', e'⟩ => ?_, fun C k H' o _ => ?_⟩
  · have := (ho _ _ o).1
    cases this
  · obtain ⟨hd, rfl⟩ := ho _ _ o
    cases hd
    obtain ⟨g2, e2⟩ := e.back g' e' (tb := ta) fun p hp => .inl (List.mem_append_right _ hp)
    exact q dx H' ⟨F', g.trans g2, e2⟩
  · have := (ho _ _ o).1
    cases this
/-- the call comes back with a new cell -/
theorem sp_new {Cc : Ct} {ws : List W} {out : Out → Cells → Prop} {vs : List V} {E : XK} {Q : VK} {m : Nd} (e : En K B F0 ro (ka ++ kr) (vs.zip ws ++ ta) sg H) (hl : vs.length = ws.length) (hC : Cc ws ka out) (ho : ∀ o k, out o k → ∃ a, o = .ret (.adr a) ∧ k = k2 ++ [(a, m)])
    (q : ∀ a H', En K B F0 ro (k2 ++ kr ++ [(a, m)]) ta sg H' → Q (.ref a) H') : spC K Cc vs H Q E := by
  obtain ⟨F, g, e⟩ := e
  refine ⟨off H ka, F, ws, ka, out, hC, hl, ⟨F, Gr.refl _ _, e.into (ro' := []) (sg' := []) (ta' := vs.zip ws) rfl (fun i w h => by simp at h) fun p hp => List.mem_append_left _ hp⟩, fun d' k v H' o ⟨F', g', e'⟩ => ?_, fun C fs k dx H' o _ => ?_, fun C k H' o _ => ?_⟩
  · obtain ⟨a, hd, rfl⟩ := ho _ _ o
    cases hd
    have hv : v = .ref a := e'.tm (v, .val (.adr a)) List.mem_cons_self
    subst hv
    obtain ⟨g2, e2⟩ := e.back g' e' (tb := ta) fun p hp => .inl (List.mem_append_right _ hp)
    refine q a H' ⟨F', g.trans g2, e2.perm ?_⟩
    rw [List.append_assoc, List.append_assoc]
    exact List.Perm.append_left _ List.perm_append_comm
  · obtain ⟨a, z, _⟩ := ho _ _ o
    cases z
  · obtain ⟨a, z, _⟩ := ho _ _ o
    cases z
theorem evn_call {Cc : Ct} {ws : List W} {out : Out → Cells → Prop} {E : XK} {m : Nd} (kr : Cells) (ha : EvA K tr ro ka ws (k1 ++ kr)) (hC : Cc ws k1 out) (ho : ∀ o k, out o k → ∃ a, o = .ret (.adr a) ∧ k = k2 ++ [(a, m)]) : EvN K (tCall (spC K Cc) [] E tr) ro ka m (k2 ++ kr) := fun B F0 ta sg H Q e q =>
  ha B F0 ta sg H _ e fun vs H1 hl e1 => by
    rw [List.append_nil]
    exact sp_new e1 hl hC ho q
/-- o.f, a property -/
theorem ev_prop {Cc : Ct} {out : Out → Cells → Prop} {E : XK} {d : D} (kr : Cells) (h : EvD K te ro ka w (k1 ++ kr)) (l : Io (k1 ++ kr) w C fs b) (hC : Cc [w] k1 out) (ho : ∀ o k, out o k → o = .ret d ∧ k = k1) : EvD K (tProp C (spC K Cc) [] E te) ro ka (.val d) (k1 ++ kr) := fun B F0 ta sg H Q e q => h B F0 ta sg H _ e fun u H1 e1 => by
  obtain ⟨a, dx, xs, rfl, ha⟩ := l.en e1 List.mem_cons_self
  exact ⟨a, dx, xs, rfl, ha, sp_ret (vs := [.ref a]) (ws := [w]) (ta := ta) e1 rfl hC ho q⟩
/-- own == own, own != own, or a built-in's value -/
inductive Eo (ka : Cells) : W → Addr → Prop where
  | io {u : W} {D1 : Addr} {gs : List (Str × D)} {b1 : Bool} (l : Io ka u D1 gs b1) : Eo ka u D1
  | non {D1 : Addr} : Eo ka (.val .non) D1
  | bl {b1 : Bool} {D1 : Addr} : Eo ka (.val (.bl b1)) D1
  | int {b1 : Int} {D1 : Addr} : Eo ka (.val (.int b1)) D1
  | str {b1 : Str} {D1 : Addr} : Eo ka (.val (.str b1)) D1
  | sq {u : W} {t b1 : Bool} {ds : List D} {D1 : Addr} (l : Lk ka u t ds b1) : Eo ka u D1
/-- the built-in types, that the class goes ahead of -/
def EqT (K : PySem.W.Frag) (C : Addr) : Prop := ∀ T ∈ ["NoneType", "bool", "int", "str", "list", "tuple"], subIn K (.type T) (.ref C) = some false
theorem Eo.at {u : V} (hT : EqT K C) (l : Eo ka y C) (e : En K B F0 ro ka ta sg H) (h : (u, y) ∈ ta) : TyE2 K C H u := by
  cases l with
  | io l =>
    obtain ⟨a, dx, xs, rfl, ha⟩ := l.en e h
    exact .own ha
  | non =>
    obtain rfl := e.tm_non h
    exact .ty .non (hT _ (by simp))
  | bl =>
    obtain rfl := e.tm_bl h
    exact .ty .bl (hT _ (by simp))
  | int =>
    obtain rfl := e.tm_int h
    exact .ty .int (hT _ (by simp))
  | str =>
    obtain rfl := e.tm_str h
    exact .ty .str (hT _ (by simp))
  | @sq x t ds b C l =>
    obtain ⟨F, g, e⟩ := e
    obtain ⟨a, xs, rfl, h1, _⟩ := l.get e (e.tm _ h)
    cases t with
    | false => exact .ty (.lst (.inl h1)) (hT _ (by simp))
    | true => exact .ty (.tup h1) (hT _ (by simp))
/-- own << other and the like: the other of a built-in type -/
structure TyWf (K : PySem.W.Frag) (C : Addr) (op : Operator) (ka : Cells) (y : W) : Prop where
  at_ : ∀ B F0 ro ta sg H u, En K B F0 ro ka ta sg H → (u, y) ∈ ta → ∃ T, TyV K H u T ∧ BoT K C op T
end
end DL

/-! DH: making objects, isinstance, conversions, exceptions by data (own work). -/
namespace DL
open PySem L2 PySem.W

section
variable {K : PySem.W.Frag} {B F F0 : Hp} {ro : Ro} {ka k1 k2 k3 kr : Cells} {ta : List (V × W)} {sg : L2.St} {H H' : Hp} {te tf tg : TE} {tr : TA} {tt : TT} {w x y z : W} {n : Nd} {C dx a : Addr} {fs : List (Str × D)} {b : Bool} {P : L2.St → Hp → Prop}

/-! ### an instance cell, frozen -/
theorem En.freeze_i (e : En K B F0 ro (ka ++ [(a, .ins C fs)]) ta sg H) : En K B F0 ro ka ((.ref a, .val (.ins C fs)) :: ta) sg H := by
  obtain ⟨F, g, e⟩ := e
  obtain ⟨fa, ba, dx, xs, ha, rl⟩ := e.ce (a, .ins C fs) (by simp)
  have gg : Gr B F (upd F a (.ins C dx xs)) := ⟨Sub.new fa, fun b h1 h2 => by
    have ne : b ≠ a := fun q => h2 (q ▸ ba)
    rw [upd_ne ne]
    exact h1⟩
  have nd2 := e.nd
  rw [List.map_append, List.nodup_append] at nd2
  refine ⟨upd F a (.ins C dx xs), g.trans gg, ⟨fun b u h => ?_, fun b u h => ?_, e.fr, nd2.1, fun q hq => ?_, e.ln, fun i w h => ?_, fun q hq => ?_⟩⟩
  · by_cases hb : b = a
    · subst hb; rw [upd_same] at h; cases h; rfl
    · rw [upd_ne hb] at h; exact e.nz b u h
  · by_cases hb : b = a
    · subst hb; rw [upd_same] at h; cases h; exact .inl ha
    · rw [upd_ne hb] at h; exact e.fz b u h
  · obtain ⟨h1, h2, h3⟩ := e.ce q (List.mem_append_left _ hq)
    have nq : q.1 ≠ a := fun z => nd2.2.2 q.1 (List.mem_map.mpr ⟨q, hq, rfl⟩) a (by simp) z
    exact ⟨by rw [upd_ne nq]; exact h1, h2, ndok_gr e.nz gg h3⟩
  · obtain ⟨v, h1, h2⟩ := e.sl i w h
    exact ⟨v, h1, wok_gr e.nz gg h2⟩
  · rcases List.mem_cons.mp hq with rfl | hq
    · exact ⟨a, dx, xs, rfl, .inl upd_same, RpF.mono gg.sub.exz e.nz _ _ rl⟩
    · exact wok_gr e.nz gg (e.tm q hq)
theorem EvN.ins {fs : List (Str × D)} (h : EvN K te ro ka (.ins C fs) k1) : EvD K te ro ka (.val (.ins C fs)) k1 := fun B F0 ta sg H Q e q => h B F0 ta sg H Q e fun a H1 e1 => q _ _ e1.freeze_i
/-- fewer cells -/
theorem En.less (e : En K B F0 ro ka ta sg H) (h : k1.Sublist ka) : En K B F0 ro k1 ta sg H := let ⟨F, g, q⟩ := e; ⟨F, g, q.cells h⟩
theorem EvD.less (h : EvD K te ro ka w k1) (s : k2.Sublist k1) : EvD K te ro ka w k2 := fun B F0 ta sg H Q e q => h B F0 ta sg H Q e fun v H1 e1 => q v H1 (e1.less s)
theorem Gp.less (h : Gp K B F0 ta P ro k1) (s : k1.Sublist ka) : Gp K B F0 ta P ro ka := fun sg H e => h sg H (e.less s)
/-! ### C(e, ..) -/
/-- C(..): __init__ by contract; a new cell -/
theorem evn_make {Cc : Ct} {ws : List W} {E : XK} {m : Nd} (ha : EvA K tr ro ka ws k1)
    (hC : ∀ a, ∃ out, Cc (.val (.adr a) :: ws) (k1 ++ [(a, .ins C [])]) out ∧ ∀ o k, out o k → o = .ret .non ∧ k = k2 ++ [(a, m)]) : EvN K (tMake C (spC K Cc) [] E tr) ro ka m k2 := fun B F0 ta sg H Q e q =>
  ha B F0 ta sg H _ e fun vs H1 hl e1 => by
    intro x dx hx hd hne
    rw [List.append_nil]
    obtain ⟨F, g, e1⟩ := e1
    obtain ⟨e2, g2⟩ := e1.lay (o := .own x) hd rfl
    have hx2 : upd H1 dx (.own x) x = none := by rw [upd_ne (Ne.symm hne)]; exact hx
    have e3 := e2.cell (o := .ins C dx []) hx2 (n := .ins C []) ⟨dx, [], upd_same, rfl⟩
    have e4 := e3.push (v := .ref x) (w := .val (.adr x)) rfl
    obtain ⟨out, hC, ho⟩ := hC x
    have e5 : En K B F0 ro ((k1 ++ [(x, .ins C [])]) ++ []) ((V.ref x :: vs).zip (W.val (.adr x) :: ws) ++ ta) sg (upd (upd H1 dx (.own x)) x (.ins C dx [])) := by
      rw [List.append_nil]
      exact ⟨_, g.trans g2, e4⟩
    refine sp_ret (k2 := k2 ++ [(x, m)]) e5 (by rw [List.length_cons, List.length_cons, hl]) hC ho fun v H' e6 => ?_
    rw [List.append_nil] at e6
    exact ⟨e6.tm_non List.mem_cons_self, q x H' e6.pop⟩
/-- self.f = e, self a cell -/
def putD (f : Str) (v : D) : List (Str × D) → List (Str × D)
  | [] => [(f, v)]
  | (g, x) :: r => if g = f then (g, v) :: r else (g, x) :: putD f v r
theorem rpf_put {F : Hp} {f : Str} {v : V} {d : D} (hv : Rp K F d v) : ∀ {fs : List (Str × D)} {xs : List (Str × V)}, RpF K F fs xs → RpF K F (putD f d fs) (putF f v xs)
  | [], xs, h => by rw [show xs = [] from h]; exact ⟨v, [], rfl, hv, rfl⟩
  | (g, d0) :: fs, xs, h => by
    obtain ⟨x, ys, rfl, h1, h2⟩ := h
    unfold putD putF
    by_cases q : g = f
    · rw [if_pos q, if_pos q]
      exact ⟨v, ys, rfl, hv, h2⟩
    · rw [if_neg q, if_neg q]
      exact ⟨x, _, rfl, h1, rpf_put hv h2⟩
theorem rpf_len {F : Hp} : ∀ {fs : List (Str × D)} {xs : List (Str × V)}, RpF K F fs xs → xs.length = fs.length
  | [], xs, h => by rw [show xs = [] from h]; rfl
  | _ :: fs, xs, h => by
    obtain ⟨x, ys, rfl, _, h2⟩ := h
    rw [List.length_cons, List.length_cons, rpf_len h2]
theorem g_fld {f : Str} {d : D} {j : Nat} {De : Ends} (hv : EvD K tf ro ka (.val d) k1) (ho : EvD K te ro k1 (.val (.adr a)) k2) (hj : k2[j]? = some (a, .ins C fs)) (c : Cls K C) (nf : NoAttr K C f) (hz : fs.length < 900)
    (k : Gp K B F0 ta De.nx ro (k2.set j (a, .ins C (putD f d fs)))) : Gp K B F0 ta (sFld K te tf f De) ro ka := fun sg H e => hv B F0 ta sg H _ e fun v H1 e1 => ho B F0 _ sg H1 _ e1 fun u H2 e2 => by
  have hu := e2.tm_adr List.mem_cons_self
  subst hu
  obtain ⟨F, g, e2⟩ := e2
  obtain ⟨_, _, dx, xs, hx, rx⟩ := e2.ce _ (List.mem_of_getElem? hj)
  have hv := e2.tm (v, .val d) (List.mem_cons_of_mem _ List.mem_cons_self)
  refine ⟨a, C, dx, xs, rfl, hx, c, nf, by rw [rpf_len rx]; omega, k _ _ ⟨F, g, ?_⟩⟩
  exact (e2.write (o := .ins C dx (putF f v xs)) (n' := .ins C (putD f d fs)) hj ⟨dx, _, upd_same, rpf_put hv rx⟩).held fun p hp => List.mem_cons_of_mem _ (List.mem_cons_of_mem _ hp)
/-! ### isinstance -/
/-- the class facts for isinstance -/
structure ClsI (K : PySem.W.Frag) (C : Addr) : Prop where
  cl : Cls K C
  ha : findIn K (.ref C) "__class__" = some (some (.builtin "object.__class__"))
  hn : specialIn K (.builtin "object.__class__") "__get__" = some (some (.builtin "getset_descriptor.__get__"))
  htk : takesIn K (.builtin "object.__class__") = some true
  hm : mroIn K C (.type "object") = some true
/-- the type of what w stands for -/
inductive Tw (K : PySem.W.Frag) (ka : Cells) : W → Value → Prop where
  | non : Tw K ka (.val .non) (.type "NoneType")
  | bl {i : Bool} : Tw K ka (.val (.bl i)) (.type "bool")
  | int {i : Int} : Tw K ka (.val (.int i)) (.type "int")
  | str {i : Str} : Tw K ka (.val (.str i)) (.type "str")
  | lst {u : W} {ds : List D} {b1 : Bool} (l : Lk ka u false ds b1) : Tw K ka u (.type "list")
  | tup {u : W} {ds : List D} {b1 : Bool} (l : Lk ka u true ds b1) : Tw K ka u (.type "tuple")
  | io {u : W} {D1 : Addr} {gs : List (Str × D)} {b1 : Bool} (l : Io ka u D1 gs b1) (c : ClsI K D1) : Tw K ka u (.ref D1)
theorem Tw.at {t : Value} {v : V} (l : Tw K ka w t) (e : En K B F0 ro ka ta sg H) (h : (v, w) ∈ ta) : TyX K H v t := by
  cases l with
  | non => obtain rfl := e.tm_non h; exact .base .non
  | bl => obtain rfl := e.tm_bl h; exact .base (.bl _)
  | int => obtain rfl := e.tm_int h; exact .base (.int _)
  | str => obtain rfl := e.tm_str h; exact .base (.str _)
  | lst l =>
    obtain ⟨F, g, e⟩ := e
    obtain ⟨a, xs, rfl, h1, _⟩ := l.get e (e.tm _ h)
    rcases (show Rd H a (.lst xs) from h1) with h1 | ⟨o, h1⟩
    · exact .base (.lst h1)
    · exact .base (.frz h1)
  | tup l =>
    obtain ⟨F, g, e⟩ := e
    obtain ⟨a, xs, rfl, h1, _⟩ := l.get e (e.tm _ h)
    rcases (show SqT K H a xs from h1) with h1 | h1
    · rcases h1 with h1 | ⟨o, h1⟩
      · exact .base (.tup h1)
      · exact .fTuple h1
    · obtain ⟨o, its, n, q1, q2, _⟩ := h1
      exact .kTuple q1 q2
  | io l c =>
    obtain ⟨a, dx, xs, rfl, ha⟩ := l.en e h
    exact .base (.ins ha c.cl c.ha c.hn c.htk c.hm)
theorem rc_isi {T : String} {t : Value} {b : Bool} (l : Tw K ka w t) (h : kitOne K t (.type T) = some b) : RcD K (rIsi K) ka [w, .val (.ty T)] (.val (.bl b)) := fun B F0 ro ta sg H us Q e hl hm q => by
  obtain ⟨u, v, rfl, h1, h2⟩ := zip_two hl hm
  have hv : v = .ty T := e.tm_ty h2
  subst hv
  exact ⟨u, .ty T, t, .type T, b, rfl, .ty T, l.at e h1, h, q _ _ (e.push_imm fun _ => rfl)⟩
end
end DL

/-! DJ: raise, try, by data; conversions (own work). -/
namespace DL
open PySem L2 PySem.W

/-! ### own exception classes -/
/-- the class object of an own error: its kind, its line of classes, its slots -/
def lineOk (C : Addr) (cd : ClassData) : Bool := !cd.hasDel && (cd.hasDict && (match cd.mro with
  | x :: r => x == .ref C && PySem.HandSPX.refsVE r
  | [] => false))
def slotsOk (sl : Array (Option Value)) : Bool := sl.size == 6 && sl[4]? == some (some (.builtin "ValueError.__new__"))
def errObj (C : Addr) (o : Obj) : Bool := o.cls == .type "type" && (slotsOk o.slots && (match o.data with
  | .cls cd => lineOk C cd
  | _ => false))
def oexB (K : PySem.W.Frag) (C : Addr) : Bool := (K.lookup C).any (errObj C) && (decide (findIn K (.ref C) "__setattr__" = some (some (.builtin "object.__setattr__"))) && (decide (subIn K (.ref C) (.type "BaseException") = some true) && (decide (typeIn K (.ref C) = some (.type "type")) && keepIn K (.ref C))))
theorem slots_six {sl : Array (Option Value)} (h : slotsOk sl = true) : ∃ a b c d e, sl = #[a, b, c, d, some (.builtin "ValueError.__new__"), e] := by
  obtain ⟨h1, h2⟩ := Bool.and_eq_true_iff.mp h
  have h1 := beq_iff_eq.mp h1
  have h2 := beq_iff_eq.mp h2
  obtain ⟨l⟩ := sl
  match l, h1, h2 with
  | [a, b, c, d, x, e], _, h2 =>
    have : x = some (.builtin "ValueError.__new__") := by simpa using h2
    exact ⟨a, b, c, d, e, by rw [this]⟩
theorem oexB_ok {K : PySem.W.Frag} {C : Addr} (h : oexB K C = true) : OexC K C := by
  have h := Bool.and_eq_true_iff.mp h
  have r1 := Bool.and_eq_true_iff.mp h.2
  have r2 := Bool.and_eq_true_iff.mp r1.2
  have r3 := Bool.and_eq_true_iff.mp r2.2
  refine ⟨?_, of_decide_eq_true r1.1, of_decide_eq_true r2.1, of_decide_eq_true r3.1, r3.2⟩
  obtain ⟨o, ho, h1⟩ : ∃ o, K.lookup C = some o ∧ errObj C o = true := by
    cases q : K.lookup C with
    | none => have := h.1; rw [q] at this; cases this
    | some o => have := h.1; rw [q] at this; exact ⟨o, rfl, this⟩
  have k1 := Bool.and_eq_true_iff.mp h1
  have k2 := Bool.and_eq_true_iff.mp k1.2
  have hc := beq_iff_eq.mp k1.1
  obtain ⟨s0, s1, s2, s3, s5, hs⟩ := slots_six k2.1
  obtain ⟨oc, od, dt, sl⟩ := o
  cases dt with
  | cls cd =>
    have l1 := Bool.and_eq_true_iff.mp (show (!cd.hasDel && (cd.hasDict && _)) = true from k2.2)
    have l2 := Bool.and_eq_true_iff.mp l1.2
    have hdel : cd.hasDel = false := by simpa using l1.1
    have hdict : cd.hasDict = true := l2.1
    cases hm : cd.mro with
    | nil => have := l2.2; rw [hm] at this; cases this
    | cons x r =>
      have l3 : (x == .ref C && PySem.HandSPX.refsVE r) = true := by have := l2.2; rw [hm] at this; exact this
      have l4 := Bool.and_eq_true_iff.mp l3
      have hx := beq_iff_eq.mp l4.1
      refine ⟨cd.name, cd.qualname, cd.ns, cd.bases, r, cd.slotNames, cd.subclasses, cd.abstract, cd.collection, od, s0, s1, s2, s3, s5, ?_, l4.2⟩
      rw [ho]
      have hc : oc = .type "type" := hc
      have hs : sl = _ := hs
      subst hc hs hx
      cases cd
      cases hm
      cases hdel
      cases hdict
      rfl
  | _ => cases k2.2
/-- what a raised own error with fields asks of the text -/
structure Xc (K : PySem.W.Frag) (C : Addr) : Prop where
  oex : OexC K C
  xf : XfC K C
def xcB (K : PySem.W.Frag) (C : Addr) : Bool := oexB K C && xfB K C
theorem xcB_ok {K : PySem.W.Frag} {C : Addr} (h : xcB K C = true) : Xc K C := let ⟨a, b⟩ := Bool.and_eq_true_iff.mp h; ⟨oexB_ok a, xfB_ok b⟩
/-- __init__(self, x): self.f = x -/
def spI1 (K : PySem.W.Frag) (C : Addr) (f : Str) : Sp := fun vs H Q _ => ∃ a y, vs = [.ref a, y] ∧ OexC K C ∧ findIn K (.ref C) f = some none ∧ H a = some (exo a C none) ∧
  ∀ d, H d = none → d ≠ a → Q .non (upd (upd H d (exd d [(f, y)])) a (exo a C (some d)))
theorem init1_ok {P : Program} {w : World} {K : PySem.W.Frag} {mg : Str → Option Value} {base : Heap} {f C : Addr} {fd : FuncData} {nm qual x fld : Str} {params : Arguments} {body : List Stmt} {scope : Scope} {k : Nat} {CX : CXT}
    (F : FunD K nm qual params body scope [] [] f fd) (S : FnScope ["self", x] ["self", x] scope)
    (h : ∀ (cdv : Value) (A : Around) (outer : List Env) (s : Shared) (H : Hp) (E : XK), PSs (cxOf CX P w K mg base ["self", x] qual scope f cdv A outer s H E) body (tOst K fld (tVar 0) (tVar 1))) : FnOk P w K mg base CX (k + 1) f fd ["self", x] (spI1 K C fld) :=
  F.ok S (fun vs H Q E ⟨a, y, e, _⟩ => by rw [e]; rfl) fun cdv A outer s H vs Q E hr ⟨a, y, e, T, hno, ha, q⟩ => ⟨_, h cdv A outer s H E, by
    subst e
    exact ⟨y, rfl, .ref a, rfl, a, C, rfl, T, hno, .inl ⟨ha, q⟩⟩⟩
/-- an own error class made without arguments: a new object, no fields -/
theorem pmk_zero {X : Cx} {C : Addr} {mros : List Value} {base new ini : String} {x : Str} {p pos : Pos} (facts : PySem.ExcBaseFacts base new ini mros) (known : excIn X.K C mros new = true) (here : X.mg x = some (.ref C)) (kept : keepIn X.K (.ref C) = true) (up : Raises X (.ref C)) (glob : Gl X x)
    (plain : (x == ("__debug__" : Str)) = false := by decide) : PMk X (.Call (.Name x p) [] [] pos) (fun _ H Q => Q (.ref C) none H) := fun pins s sg H Q I want => by
  obtain ⟨mro, ns, cn, qn, bases, dct, slots, subs, abst, coll, dd, a0, a1, a2, a3, a5, mN, look, space, noInit, tail⟩ := exc_obj I.kIn known
  have made := PySem.wpAny_call_exc_subT (prog := X.prog) (w := X.w) (A := X.A) (Q := MkP X pins sg Q) (E := X.xe) (rest := []) facts tail look space noInit (fun h' e new => mk_of (I.tok _) new up want (I.hok.gone new.new)) (Nat.zero_le _)
  exact wpAny_Call_Name_kw (ld_glob (pos := p) (E := X.xe) I glob here (callWith_K0 (first := []) I.kIn kept made) plain)

section
variable {K : PySem.W.Frag} {B F F0 : Hp} {ro : Ro} {ka k1 k2 k3 kr : Cells} {ta : List (V × W)} {sg : L2.St} {H H' : Hp} {te tf tg : TE} {tr : TA} {tt : TT} {w x y z : W} {n : Nd} {C dx a : Addr} {fs : List (Str × D)} {b : Bool} {P : L2.St → Hp → Prop}
theorem mk1_of {fld : Str} {d : D} {Q : XK} (ha : EvA K tr ro ka [.val d] k1) (T : OexC K C) (hno : findIn K (.ref C) fld = some none) (e : En K B F0 ro ka ta sg H)
    (q : ∀ dx H', En K B F0 ro (k1 ++ [(dx, .xd [(fld, d)])]) ta sg H' → Q (.ref C) (some dx) H') : tMkO C (spI1 K C fld) [] tr sg H Q := ha B F0 ta sg H _ e fun vs H1 hl e1 => by
  match vs, hl with
  | [v], _ =>
    refine ⟨by show 1 ≤ 1000; omega, fun a hna => ⟨a, v, rfl, T, hno, upd_same, fun dd hd hne => ⟨rfl, dd, [(fld, v)], upd_same, ?_, ?_, ?_⟩⟩⟩
    · rw [upd_ne hne, upd_same]
    · rwa [upd_ne hne] at hd
    · have hd1 : H1 dd = none := by rwa [upd_ne hne] at hd
      have eH : upd (del (upd (upd (upd H1 a (exo a C none)) dd (exd dd [(fld, v)])) a (exo a C (some dd))) a) dd (.xd [(fld, v)]) = upd H1 dd (.xd [(fld, v)]) := by
        funext b
        by_cases h1 : b = dd
        · subst h1
          rw [upd_same, upd_same]
        · rw [upd_ne h1, upd_ne h1]
          by_cases h2 : b = a
          · subst h2
            rw [del_same, hna]
          · rw [del_ne h2, upd_ne h2, upd_ne h1, upd_ne h2]
      rw [eH]
      obtain ⟨F, g, e1⟩ := e1
      have hv : WOk K B F v (.val d) := e1.tm _ (List.mem_append_left _ List.mem_cons_self)
      exact q dd _ ⟨F, g, (e1.cell (o := .xd [(fld, v)]) hd1 (n := .xd [(fld, d)]) ⟨_, upd_same, v, [], rfl, hv, rfl⟩).held fun p hp => List.mem_append_right _ hp⟩
theorem En.leaveX (e : En K B F0 ro ka ta sg H) : En K B F0 [] ka [] [] H :=
  let ⟨F, g, q⟩ := e
  ⟨F, g, (q.frame (ro' := []) (sg' := []) rfl fun i w h => by simp at h).held fun p hp => by cases hp⟩
theorem g_raise1 {fld : Str} {d : D} {out : Out → Cells → Prop} {E : XK} (hX : RxOk K B F0 out E) (ha : EvA K tr ro ka [.val d] k1) (T : OexC K C) (hno : findIn K (.ref C) fld = some none) (o : out (.exc C [(fld, d)]) k1) :
    Gp K B F0 ta (fun σ H => tMkO C (spI1 K C fld) [] tr σ H fun cls dd H' => E cls dd H') ro ka := fun sg H e => mk1_of ha T hno e fun dx H' e' => hX.1 C _ k1 dx H' o e'.leaveX
theorem g_raise0 {out : Out → Cells → Prop} {E : XK} (hX : RxOk K B F0 out E) (o : out (.exc0 C) ka) : Gp K B F0 ta (fun σ H => E (.ref C) none H) ro ka := fun sg H e => hX.2 C ka H o e.leaveX

/-! ### try -/
/-- what is wished of an exception, whatever the slots hold -/
def XW (n : Nat) (Wx : WX) : XK := fun cls d H => ∀ σ : L2.St, σ.length = n → Wx cls d σ H
theorem pass_xw {X : Cx} {Wx : WX} (tk : Takes X Wx) : Passes (L2.CX X.prog X.w) X (XW X.N.length Wx) := fun _ σ _ _ e s' I c => tk e s' (XE.of_call I (fun _ _ _ h => h σ I.len) c)
/-- e.f of the exception -/
theorem ev_xf {f : Str} {d : D} {j : Nat} (he : EvD K te ro ka (.val (.adr a)) k1) (hj : k1[j]? = some (dx, .xd fs)) (hd : fs.lookup f = some d) : EvD K (tXf a (.ref C) (some dx) C f te) ro ka (.val d) k1 := fun B F0 ta sg H Q e q => he B F0 ta sg H _ e fun v H1 e1 => by
  have hv := e1.tm_adr List.mem_cons_self
  subst hv
  obtain ⟨F, g, e1⟩ := e1
  obtain ⟨_, _, xs, hx, rx⟩ := e1.ce _ (List.mem_of_getElem? hj)
  obtain ⟨v, l, rv⟩ := rpf_lookup rx hd
  exact ⟨rfl, rfl, dx, xs, v, rfl, hx, l, q v H1 ⟨F, g, (e1.held (ta' := ta) fun p hp => List.mem_cons_of_mem _ hp).push rv⟩⟩

/-! ### conversions -/
def rTupU (K : PySem.W.Frag) : List V → Hp → VK → Prop := fun xs H Q => ∃ p ys, xs = [.ref p] ∧ ((SqL K H p ys ∧ ∀ l, H l = none → Q (.ref l) (upd H l (.tup ys))) ∨ (SqT K H p ys ∧ Q (.ref p) H))
def rLstU (K : PySem.W.Frag) : List V → Hp → VK → Prop := fun xs H Q => ∃ p ys, xs = [.ref p] ∧ (SqL K H p ys ∨ SqT K H p ys) ∧ ∀ l, H l = none → Q (.ref l) (upd H l (.lst ys))
def rIntU : List V → Hp → VK → Prop := fun xs H Q => (∃ i, xs = [.int i] ∧ Q (.int i) H) ∨ ∃ k, xs = [.bl k] ∧ Q (.int (if k then 1 else 0)) H
theorem call_tupU {X : Cx} : CallR X (.type "tuple") (rTupU X.K) := call_tuple_of
theorem call_lstU {X : Cx} : CallR X (.type "list") (rLstU X.K) := call_list_of
theorem call_intU {X : Cx} : CallR X (.type "int") rIntU := call_int1
theorem rpl_imm {F G : Hp} : ∀ {ds : List D} {xs : List V}, ds.all imm = true → RpL K F ds xs → RpL K G ds xs
  | [], _, _, h => h
  | d :: ds, xs, hi, h => by
    obtain ⟨x, ys, rfl, h1, h2⟩ := h
    rw [List.all_cons, Bool.and_eq_true] at hi
    exact ⟨x, ys, rfl, imm_any hi.1 h1, rpl_imm hi.2 h2⟩
/-- a sequence's items may be told as frozen -/
def SqF (b : Bool) (ds : List D) : Prop := b = false ∨ ds.all imm = true
theorem SqF.to {ds : List D} {xs : List V} (h : SqF b ds) (r : RpL K (if b then uni B F else F) ds xs) : RpL K F ds xs := by
  rcases h with h | h
  · subst h; exact r
  · exact rpl_imm h r
theorem rc_tupL {ds : List D} (l : Lk ka w false ds b) (hf : SqF b ds) : RcD K (rTupU K) ka [w] (.val (.tup ds)) := fun B F0 ro ta sg H us Q e hl hm q => by
  obtain ⟨u, rfl, hu⟩ := zip_one hl hm
  obtain ⟨F, g, e⟩ := e
  obtain ⟨a, xs, rfl, h1, h2⟩ := l.get e (e.tm _ hu)
  have r2 := hf.to h2
  refine ⟨a, xs, rfl, .inl ⟨.inl h1, fun p hp => q _ _ ?_⟩⟩
  obtain ⟨e4, g4⟩ := e.lay (o := .tup xs) hp rfl
  exact ⟨_, g.trans g4, e4.push ⟨p, _, rfl, .inl (.inl upd_same), RpL.mono g4.sub.exz e.nz _ _ r2⟩⟩
theorem rc_tupT {ds : List D} : RcD K (rTupU K) ka [.val (.tup ds)] (.val (.tup ds)) := fun B F0 ro ta sg H us Q e hl hm q => by
  obtain ⟨u, rfl, hu⟩ := zip_one hl hm
  obtain ⟨F, g, e⟩ := e
  obtain ⟨a, xs, rfl, h1, h2⟩ := Lk.vt.get e (e.tm _ hu)
  exact ⟨a, xs, rfl, .inr ⟨h1, q _ _ ⟨F, g, e.push (e.tm _ hu)⟩⟩⟩
theorem rcn_lst {t : Bool} {ds : List D} (l : Lk ka w t ds b) (hf : SqF b ds) : RcN K (rLstU K) ka [w] (.lst ds) := fun B F0 ro ta sg H us Q e hl hm q => by
  obtain ⟨u, rfl, hu⟩ := zip_one hl hm
  obtain ⟨F, g, e⟩ := e
  obtain ⟨a, xs, rfl, h1, h2⟩ := l.at e (e.tm _ hu)
  have r2 := hf.to h2
  exact ⟨a, xs, rfl, h1, fun p hp => q p _ ⟨F, g, e.cell (o := .lst xs) hp (n := .lst ds) ⟨_, upd_same, r2⟩⟩⟩
theorem rc_int {i : Int} : RcD K rIntU ka [.val (.int i)] (.val (.int i)) := fun B F0 ro ta sg H us Q e hl hm q => by
  obtain ⟨u, rfl, hu⟩ := zip_one hl hm
  obtain rfl := e.tm_int hu
  exact .inl ⟨i, rfl, q _ _ (e.push_imm fun _ => rfl)⟩
theorem rpl_bls {F : Hp} : ∀ {bs : List Bool} {xs : List V}, RpL K F (bs.map D.bl) xs → xs = bs.map V.bl
  | [], _, h => h
  | b :: bs, xs, h => by
    obtain ⟨x, ys, rfl, h1, h2⟩ := h
    rw [show x = V.bl b from h1, rpl_bls h2]
    rfl
theorem rc_all {bs : List Bool} (l : Lk ka w false (bs.map D.bl) b) : RcD K (rAll K) ka [w] (.val (.bl (bs.all id))) := fun B F0 ro ta sg H us Q e hl hm q => by
  obtain ⟨u, rfl, hu⟩ := zip_one hl hm
  obtain ⟨F, g, e⟩ := e
  obtain ⟨a, xs, rfl, h1, h2⟩ := l.get e (e.tm _ hu)
  have := rpl_bls h2
  subst this
  exact ⟨a, bs, rfl, .inl h1, q _ _ ⟨F, g, e.push rfl⟩⟩
/-- a sign in a text -/
theorem rv_inS {c : Nat} {s : Str} : RvD K rInS ka (.val (.str ⟨#[c]⟩)) (.val (.str s)) (.val (.bl (decide (c ∈ s.cps.toList)))) := fun B F0 ro ta sg H u v Q e h1 h2 q =>
  ⟨c, s, e.tm_str h1, e.tm_str h2, q _ _ (e.push_imm fun _ => rfl)⟩
theorem rpl_ints {F : Hp} : ∀ (zs : List Int), RpL K F (zs.map D.int) (zs.map V.int)
  | [] => rfl
  | z :: zs => ⟨.int z, _, rfl, rfl, rpl_ints zs⟩
/-- xs[::-1] of a list -/
theorem evn_revL {ds : List D} (ha : EvD K te ro ka w k1) (l : Lk k1 w false ds b) (hf : SqF b ds) : EvN K (tRevL K te) ro ka (.lst ds.reverse) k1 := fun B F0 ta sg H Q e q => ha B F0 ta sg H _ e fun u H1 e1 => by
  obtain ⟨F, g, e1⟩ := e1
  obtain ⟨a, xs, rfl, h1, h2⟩ := l.get e1 (e1.tm _ List.mem_cons_self)
  exact ⟨a, xs, rfl, .inl h1, fun p hp => q p _ ⟨F, g, (e1.cell (o := .lst xs.reverse) hp (n := .lst ds.reverse) ⟨_, upd_same, rpl_rev (hf.to h2)⟩).held fun p hp => List.mem_cons_of_mem _ hp⟩⟩
/-- a slot's cell is frozen -/
theorem Gp.frz {i j : Nat} {ds : List D} (hi : ro[i]? = some (some (.val (.adr a)))) (hj : ka[j]? = some (a, .lst ds)) (h : Gp K B F0 ta P (ro.set i (some (.val (.lst ds)))) (ka.eraseIdx j)) : Gp K B F0 ta P ro ka := fun sg H e => by
  have hp : (ka.eraseIdx j ++ [(a, Nd.lst ds)]).Perm ka := by
    have hlt := (List.getElem?_eq_some_iff.mp hj).1
    have h2 : ka[j] = (a, Nd.lst ds) := (List.getElem?_eq_some_iff.mp hj).2
    have e3 : ka = ka.take j ++ (a, Nd.lst ds) :: ka.drop (j + 1) := by
      rw [← h2, List.getElem_cons_drop, List.take_append_drop]
    rw [List.eraseIdx_eq_take_drop_succ]
    refine List.Perm.trans List.perm_append_comm ?_
    show (((a, Nd.lst ds)) :: (ka.take j ++ ka.drop (j + 1))).Perm ka
    refine List.Perm.trans List.perm_middle.symm ?_
    rw [← e3]
  obtain ⟨F, g, e2⟩ := (e.perm hp).freeze_l
  refine h sg H ⟨F, g, (e2.frame (ro' := ro.set i (some (.val (.lst ds)))) (sg' := sg) (by rw [List.length_set]; exact e2.ln) fun k w q => ?_).held fun p hp => List.mem_cons_of_mem _ hp⟩
  by_cases hik : i = k
  · subst hik
    have hl := (List.getElem?_eq_some_iff.mp hi).1
    rw [List.getElem?_set_self hl] at q
    cases q
    obtain ⟨v, h1, h2⟩ := e2.sl i _ hi
    obtain rfl : v = .ref a := h2
    exact ⟨.ref a, h1, e2.tm _ List.mem_cons_self⟩
  · rw [List.getElem?_set_ne hik] at q
    exact e2.sl k w q
end
end DL

/-! DK: what the head tells of a text's defs and classes (own work). -/
namespace DL
open PySem L2 PySem.W

/-- the getter of the property m of the class at C -/
def pga (K : PySem.W.Frag) (C : Addr) (m : Str) : Addr := match recIn K (He.ma K C m) "property" with
  | some (.ref g :: _) => g
  | _ => 0
/-! the picture of a def: all that the text fixes of it -/
structure Pic where
  nm : Str
  qn : Str
  pars : Arguments
  code : FuncBody
  sco : Scope
  env : Addr × Addr
  clo : List (Str × Addr)
def picOf (f : FuncData) : Pic := ⟨f.name, f.qualname, f.params, f.body, f.scope, (f.globals, f.builtins), f.closure⟩
def asFn : Data → Option FuncData
  | .func f => some f
  | _ => none
def fnAt (K : PySem.W.Frag) (a : Addr) : Option FuncData := (K.lookup a).bind fun o => asFn o.data
theorem asFn_some {dt : Data} {f : FuncData} (h : asFn dt = some f) : dt = .func f := by
  cases dt <;> first | (cases h; rfl) | cases h
theorem fnAt_some {K : PySem.W.Frag} {a : Addr} {f : FuncData} (h : fnAt K a = some f) : ∃ o, K.lookup a = some o ∧ o.data = .func f := by
  obtain ⟨o, h1, h2⟩ := Option.bind_eq_some_iff.mp h
  exact ⟨o, h1, asFn_some h2⟩
/-- a def of the text: where it stands, its picture, its defaults -/
structure Df where
  at_ : PySem.W.Frag → Addr
  name : Str
  qual : Str
  params : Arguments
  body : List Stmt
  scope : Scope
  dfs : PySem.W.Frag → List V
def Df.pic (d : Df) : Pic := ⟨d.name, d.qual, d.params, .stmts d.body, d.scope, (mainGlobals, builtinsNs), []⟩
def Df.good (K : PySem.W.Frag) (d : Df) : Bool := keepIn K (.ref (d.at_ K)) && (fnAt K (d.at_ K)).any fun f => codeIn K f.code d.qual && (He.dflB K f.defaults (d.dfs K) && He.kwdB K f.kwdefaults [])
theorem Df.known {K : PySem.W.Frag} {d : Df} (e : (fnAt K (d.at_ K)).map picOf = some d.pic) (c : d.good K = true) : ∃ fd, FunD K d.name d.qual d.params d.body d.scope (d.dfs K) [] (d.at_ K) fd := by
  have c' := Bool.and_eq_true_iff.mp c
  cases hf : fnAt K (d.at_ K) with
  | none =>
    rw [hf] at e
    cases e
  | some f =>
    rw [hf] at e c'
    have c2 : (codeIn K f.code d.qual && (He.dflB K f.defaults (d.dfs K) && He.kwdB K f.kwdefaults [])) = true := c'.2
    have c3 := Bool.and_eq_true_iff.mp c2
    have c4 := Bool.and_eq_true_iff.mp c3.2
    obtain ⟨o, lk, hd⟩ := fnAt_some hf
    have same : f = PySem.W.fnOf d.name d.qual d.params d.body d.scope f.defaults f.kwdefaults f.doc f.pyModule f.annotations f.code f.closureTuple := by
      have e1 : picOf f = d.pic := Option.some.inj e
      have n := congrArg Pic.nm e1
      have qn := congrArg Pic.qn e1
      have ps := congrArg Pic.pars e1
      have bd := congrArg Pic.code e1
      have sc := congrArg Pic.sco e1
      have ev := congrArg Pic.env e1
      have cl := congrArg Pic.clo e1
      have g := congrArg Prod.fst ev
      have bt := congrArg Prod.snd ev
      cases f
      cases n; cases qn; cases ps; cases bd; cases sc; cases cl; cases g; cases bt
      rfl
    have lk2 : K.lookup (d.at_ K) = some ⟨o.cls, o.dict, .func f, o.slots⟩ := by
      rw [lk, ← hd]
    exact ⟨f, ⟨o.cls, o.dict, f.defaults, f.kwdefaults, f.doc, f.pyModule, f.annotations, f.code, f.closureTuple, o.slots, same, lk2, c3.1, He.dflB_ok c4.1, He.kwdB_ok c4.2⟩, c'.1⟩
abbrev Fx := PySem.W.Frag → Bool
/-- all facts and all defs of a text, looked at in one heap -/
abbrev AlY : Type := Bool × List (Option Pic)
def lookY (ex : List Fx) (fn : List Df) (K : PySem.W.Frag) : AlY := (ex.all (· K) && fn.all (Df.good K), fn.map fun d => (fnAt K (d.at_ K)).map picOf)
def dueY (fn : List Df) : AlY := (true, fn.map fun d => some d.pic)
def SaysY (ex : List Fx) (fn : List Df) (K : PySem.W.Frag) : Prop := lookY ex fn K = dueY fn
section
variable {ex : List Fx} {fn : List Df} {K : PySem.W.Frag}
theorem SaysY.both (c : SaysY ex fn K) : (∀ f ∈ ex, f K = true) ∧ ∀ d ∈ fn, Df.good K d = true := by
  have c1 : (ex.all (· K) && fn.all (Df.good K)) = true := congrArg Prod.fst c
  rw [Bool.and_eq_true, List.all_eq_true, List.all_eq_true] at c1
  exact c1
theorem SaysY.fact (c : SaysY ex fn K) (i : Nat) {f : Fx} (h : ex[i]? = some f := by rfl) : f K = true := c.both.1 f (List.mem_of_getElem? h)
theorem SaysY.def_ (c : SaysY ex fn K) (i : Nat) {d : Df} (h : fn[i]? = some d := by rfl) : ∃ fd, FunD K d.name d.qual d.params d.body d.scope (d.dfs K) [] (d.at_ K) fd := by
  refine Df.known ?_ (c.both.2 d (List.mem_of_getElem? h))
  have e := congrArg (fun z : AlY => z.2[i]?) c
  simp only [lookY, dueY, List.getElem?_map, h, Option.map_some, Option.some.injEq] at e
  exact e
end
/-! ### the facts, by Bool -/
section
variable {K : PySem.W.Frag} {C : Addr}
def fGlo (x : Str) : Fx := fun K => (He.Fa.glo x).ok K && keepIn K (.ref (He.ga K x))
def fFree (x : Str) : Fx := fun K => (He.Fa.free x).ok K
def fStr (x z : Str) : Fx := fun K => (He.Fa.str x z).ok K
def fInt (x : Str) (i : Int) : Fx := fun K => (He.Fa.int x i).ok K
def fCls (x : Str) : Fx := fun K => (He.Fa.cls x).ok K
def fMkr (x : Str) : Fx := fun K => (He.Fa.mkr x).ok K
def fNoat (x f : Str) : Fx := fun K => (He.Fa.noat x f).ok K
def fMeth (x m : Str) : Fx := fun K => (He.Fa.meth x m).ok K
def fSm (x m : Str) : Fx := fun K => He.eqO (findIn K (.ref (He.ga K x)) m) (some (some (.ref (He.ma K (He.ga K x) m)))) && isFn K (.ref (He.ma K (He.ga K x) m))
theorem sm_ok {x m : Str} (h : fSm x m K = true) : Sm K (He.ga K x) m (He.ma K (He.ga K x) m) := let ⟨a, b⟩ := He.ba h; ⟨He.eqO_ok a, b⟩
def fProp (x m : Str) : Fx := fun K => He.eqO (findIn K (.ref (He.ga K x)) m) (some (some (.ref (He.ma K (He.ga K x) m)))) && (He.eqO (specialIn K (.ref (He.ma K (He.ga K x) m)) "__get__") (some (some (.builtin "property.__get__"))) &&
  (decide (takesIn K (.ref (He.ma K (He.ga K x) m)) = some true) && (match recIn K (He.ma K (He.ga K x) m) "property" with
    | some (.ref _ :: _) => true
    | _ => false)))
theorem prop_ok {x m : Str} (h : fProp x m K = true) : PropOf K (He.ga K x) m (He.ma K (He.ga K x) m) (pga K (He.ga K x) m) := by
  obtain ⟨h1, h⟩ := He.ba h
  obtain ⟨h2, h⟩ := He.ba h
  obtain ⟨h3, h4⟩ := He.ba h
  refine ⟨He.eqO_ok h1, He.eqO_ok h2, of_decide_eq_true h3, ?_⟩
  unfold pga
  split at h4
  · rename_i a r q
    rw [q]
    exact ⟨r, rfl⟩
  · cases h4
def fXc (x : Str) : Fx := fun K => xcB K (He.ga K x)
def fXi (x : Str) : Fx := fun K => He.eqO (findIn K (.ref (He.ga K x)) "__init__") (some (some (.ref (He.ma K (He.ga K x) "__init__")))) && decide (typeIn K (.ref (He.ma K (He.ga K x) "__init__")) = some (.type "function"))
theorem xi_ok {x : Str} (h : fXi x K = true) : findIn K (.ref (He.ga K x)) "__init__" = some (some (.ref (He.ma K (He.ga K x) "__init__"))) ∧ typeIn K (.ref (He.ma K (He.ga K x) "__init__")) = some (.type "function") := let ⟨a, b⟩ := He.ba h; ⟨He.eqO_ok a, of_decide_eq_true b⟩
def fX0 (x : Str) : Fx := fun K => (He.Fa.exc x).ok K
def fExm (x y : Str) (b : Bool) : Fx := fun K => (He.Fa.exm x y b).ok K
def fKit (t T : String) (b : Bool) : Fx := fun K => decide (kitOne K (.type t) (.type T) = some b)
theorem kit_ok {t T : String} {b : Bool} (h : fKit t T b K = true) : kitOne K (.type t) (.type T) = some b := of_decide_eq_true h
end
/-! ### words of the derivations -/
section
variable {X : Cx} {E : XK}
theorem pass_own {E₁ : Value → Shared → Prop} (hs : X.stack = X.env :: X.outer) (hf : X.env.frame = some X.env.locals) (hex : X.ex = []) (hx : X.xe = fun e s' => wpAny (model X.prog X.w) X.A (leaving X.env e) (fun _ s'' => L2.CX X.prog X.w X.outer X.H_0 X.s_0 E e s'') E₁ s') : Passes (L2.CX X.prog X.w) X E :=
  passes_call (takes_of hs hf hex hx) fun _ _ _ _ h => h
def rMulU : R2 := fun x y H Q => rI PySem.IntMulOk (fun i j => .int (i * j)) x y H Q ∨ rRep x y H Q
theorem op_mulU : OpR X (binaryOp .Mult) rMulU := OpR.or (opI fun _ _ _ _ _ _ _ hc q => PyProof.Rows.mul_int q hc) op_rep
def rInU (K : PySem.W.Frag) : R2 := fun x y H Q => rInS x y H Q ∨ rIn K false x y H Q
theorem op_inU : OpR X (compareOp .In) (rInU X.K) := op_inS.or op_in_seq
def rNiU (K : PySem.W.Frag) : R2 := fun x y H Q => rNotInS x y H Q ∨ rIn K true x y H Q
theorem op_niU : OpR X (compareOp .NotIn) (rNiU X.K) := op_notInS.or op_notIn_seq
end
end DL

/-! DK2: the head's look, from the names that a text wants alone (own work). -/
namespace DL
open PySem L2 PySem.W
/-- the addresses that are not yet in the mask m, each once -/
def freshA {α : Type} : List Addr → Nat → List Addr → (List Addr → Nat → α) → α
  | [], m, acc, k => k acc m
  | a :: r, m, acc, k => HandSHeadRun.frNat a fun b => if Nat.beq ((m >>> b) % 2) 1 then freshA r m acc k else HandSHeadRun.frNat (m + (1 <<< b)) fun m2 => freshA r m2 (b :: acc) k
/-- what these reach in n steps -/
def walkA (g : Addr → Option Obj) : Nat → Nat → List Addr → List Addr → List Addr
  | 0, _, _, all => all
  | n + 1, m, fr, all => freshA (fr.flatMap fun a => match g a with
      | some o => He.refsD o
      | none => []) m [] fun new m2 => walkA g n m2 new (all ++ new)
def rootsA (g : Addr → Option Obj) (nm : List Str) : List Addr := nm.filterMap fun x => match nsIn (He.frG g [mainGlobals]) mainGlobals x with
  | some (some (.ref a)) => some a
  | _ => none
def asZ (g : Addr → Option Obj) (nm : List Str) (n : Nat) : List Addr := freshA (rootsA g nm) ((1 <<< mainGlobals) ||| (1 <<< builtinsNs)) [] fun rs m => mainGlobals :: walkA g n m rs rs
def obsZG (n : Nat) (nm : List Str) (ex : List Fx) (fn : List Df) (g : Addr → Option Obj) : AlY := lookY ex fn (He.frG g (asZ g nm n))
def hookZ (n : Nat) (nm : List Str) (ex : List Fx) (fn : List Df) : PySem.W.Hook :=
  { α := AlY, obs := fun s => obsZG n nm ex fn s.heap.get?, val := fun _ => dueY fn, says := fun _ h => ∃ K : PySem.W.Frag, K.In h ∧ SaysY ex fn K,
    of := fun _ _ e => ⟨_, He.frG_in, e⟩,
    keeps := fun _ _ _ w k => w.elim fun K z => ⟨K, PySem.W.Frag.In.keeps z.1 k, z.2⟩ }
theorem obsZG_eq {n : Nat} {nm : List Str} {ex : List Fx} {fn : List Df} {g : Addr → Option Obj} {s : Shared} (h : ∀ a, g a = s.heap.get? a) : obsZG n nm ex fn g = (hookZ n nm ex fn).obs s :=
  congrArg (obsZG n nm ex fn) (funext h)
/-! ### facts that the head is asked -/
/-- an empty tuple of the module -/
def IsT0 (K : PySem.W.Frag) (a : Addr) : Prop := ∃ (o : Obj) (n : Nat), K.lookup a = some o ∧ o.cls = .type "tuple" ∧ o.data = .seq #[] n
def isT0 : Option Obj → Bool
  | some ⟨.type T, _, .seq its _, _⟩ => decide (T = "tuple") && its.isEmpty
  | _ => false
def fT0 (p : Str × Option Str) (i : Nat) : Fx := fun K => isT0 (K.lookup (He.dflAt p i K))
end DL



namespace K66
open PySem L2 DL PySem.W
abbrev top (i : Nat) : Stmt := PySem.Challenge.pw_alsoshown_k66_comparing_refused.main.body.getD i (.Pass ⟨0, 0, 0, 0⟩)
def clsBody : Stmt → List Stmt
  | .ClassDef (body := b) .. => b
  | _ => []
abbrev mth (i j : Nat) : Stmt := (clsBody (top i)).getD j (.Pass ⟨0, 0, 0, 0⟩)
abbrev s_is_name : Stmt := top 18
abbrev s_is_whole : Stmt := top 19
abbrev s_first_missing : Stmt := top 21
abbrev s_check_lanes : Stmt := top 51
abbrev s_Net___init : Stmt := mth 25 0
abbrev s_Net_posts : Stmt := mth 25 1
abbrev s_Net_lanes : Stmt := mth 25 2
abbrev s_Net_post : Stmt := mth 25 3
abbrev s_Net_lane : Stmt := mth 25 4
abbrev s_Net_start_of : Stmt := mth 25 5
abbrev s_Net_end_of : Stmt := mth 25 6
abbrev s_Net_copy : Stmt := mth 25 8
abbrev s_Round___init : Stmt := mth 49 0
abbrev s_Round_lanes : Stmt := mth 49 1
abbrev s_Round_root : Stmt := mth 49 2
abbrev s_law_cell : Stmt := top 98
abbrev s_law_pool : Stmt := top 99
abbrev s_law_take : Stmt := top 100
abbrev s_law_many : Stmt := top 101
abbrev s_law_built : Stmt := top 102
abbrev s_law_ends : Stmt := top 103
abbrev s_law_ways : Stmt := top 104
abbrev s_shortest_way : Stmt := top 28
abbrev s_reached_posts : Stmt := top 29
abbrev s_parts_of : Stmt := top 30
abbrev s_part_with : Stmt := top 74
abbrev s_found_part : Stmt := top 75
abbrev s_inner_ends : Stmt := top 73
abbrev s_closed_walk : Stmt := top 76
abbrev s_Asked___init : Stmt := mth 72 0
abbrev s_Asked_wanted : Stmt := mth 72 2
abbrev s_Asked_part : Stmt := mth 72 3
abbrev s_Asked_round : Stmt := mth 72 4
abbrev s_Asked___bool : Stmt := mth 72 5
abbrev s_check_same : Stmt := top 90
abbrev s_parting_round : Stmt := top 91
abbrev s_single_ring : Stmt := top 94
abbrev s_parting_stretch : Stmt := top 95
abbrev s_law_part : Stmt := top 105
abbrev s_law_in_order : Stmt := top 106
abbrev s_law_lanes : Stmt := top 107
abbrev s_law_is_held : Stmt := top 108
abbrev s_law_held_part : Stmt := top 109
abbrev s_law_is_round : Stmt := top 110
abbrev s_law_loose_net : Stmt := top 111
abbrev s_law_told : Stmt := top 112
abbrev s_law_pair : Stmt := top 113
abbrev s_law_right_side : Stmt := top 114
abbrev s_law_right_round : Stmt := top 115
abbrev s_law : Stmt := top 116
abbrev s_BadName___init : Stmt := mth 3 0
abbrev s_NameTaken___init : Stmt := mth 4 0
abbrev s_NoPost___init : Stmt := mth 5 0
abbrev s_NoLane___init : Stmt := mth 6 0
abbrev s_NoRound___init : Stmt := mth 12 0
theorem sc_is_name : FnScope ["word", "sign"] ["word"] (defScope s_is_name) := ⟨rfl, rfl, rfl, by decide +kernel, rfl, by decide +kernel, by decide +kernel⟩
theorem sc_is_whole : FnScope ["value"] ["value"] (defScope s_is_whole) := ⟨rfl, rfl, rfl, by decide +kernel, rfl, by decide +kernel, by decide +kernel⟩
theorem sc_first_missing : FnScope ["names", "known", "name"] ["names", "known"] (defScope s_first_missing) := ⟨rfl, rfl, rfl, by decide +kernel, rfl, by decide +kernel, by decide +kernel⟩
theorem sc_check_lanes : FnScope ["lanes", "lane"] ["lanes"] (defScope s_check_lanes) := ⟨rfl, rfl, rfl, by decide +kernel, rfl, by decide +kernel, by decide +kernel⟩
theorem sc_Net___init : FnScope ["self", "order", "ends_by_lane", "known", "lane"] ["self", "order", "ends_by_lane"] (defScope s_Net___init) := ⟨rfl, rfl, rfl, by decide +kernel, rfl, by decide +kernel, by decide +kernel⟩
theorem sc_Net_posts : FnScope ["self"] ["self"] (defScope s_Net_posts) := ⟨rfl, rfl, rfl, by decide +kernel, rfl, by decide +kernel, by decide +kernel⟩
theorem sc_Net_lanes : FnScope ["self", "lane"] ["self"] (defScope s_Net_lanes) := ⟨rfl, rfl, rfl, by decide +kernel, rfl, by decide +kernel, by decide +kernel⟩
theorem sc_Net_post : FnScope ["self", "name"] ["self", "name"] (defScope s_Net_post) := ⟨rfl, rfl, rfl, by decide +kernel, rfl, by decide +kernel, by decide +kernel⟩
theorem sc_Net_lane : FnScope ["self", "name", "start", "end", "place"] ["self", "name", "start", "end"] (defScope s_Net_lane) := ⟨rfl, rfl, rfl, by decide +kernel, rfl, by decide +kernel, by decide +kernel⟩
theorem sc_Net_start_of : FnScope ["self", "lane"] ["self", "lane"] (defScope s_Net_start_of) := ⟨rfl, rfl, rfl, by decide +kernel, rfl, by decide +kernel, by decide +kernel⟩
theorem sc_Net_end_of : FnScope ["self", "lane"] ["self", "lane"] (defScope s_Net_end_of) := ⟨rfl, rfl, rfl, by decide +kernel, rfl, by decide +kernel, by decide +kernel⟩
theorem sc_Net_copy : FnScope ["self"] ["self"] (defScope s_Net_copy) := ⟨rfl, rfl, rfl, by decide +kernel, rfl, by decide +kernel, by decide +kernel⟩
theorem sc_Round___init : FnScope ["self", "lanes"] ["self", "lanes"] (defScope s_Round___init) := ⟨rfl, rfl, rfl, by decide +kernel, rfl, by decide +kernel, by decide +kernel⟩
theorem sc_Round_lanes : FnScope ["self"] ["self"] (defScope s_Round_lanes) := ⟨rfl, rfl, rfl, by decide +kernel, rfl, by decide +kernel, by decide +kernel⟩
theorem sc_Round_root : FnScope ["self", "size", "length"] ["self"] (defScope s_Round_root) := ⟨rfl, rfl, rfl, by decide +kernel, rfl, by decide +kernel, by decide +kernel⟩
theorem sc_law_cell : FnScope ["_law_script", "_law_k"] ["_law_script", "_law_k"] (defScope s_law_cell) := ⟨rfl, rfl, rfl, by decide +kernel, rfl, by decide +kernel, by decide +kernel⟩
theorem sc_law_pool : FnScope ["_law_cell_here", "_law_folded"] ["_law_cell_here"] (defScope s_law_pool) := ⟨rfl, rfl, rfl, by decide +kernel, rfl, by decide +kernel, by decide +kernel⟩
theorem sc_law_take : FnScope ["_law_pool_here", "_law_many_here", "_law_draw", "_law_mixed"] ["_law_pool_here", "_law_many_here"] (defScope s_law_take) := ⟨rfl, rfl, rfl, by decide +kernel, rfl, by decide +kernel, by decide +kernel⟩
theorem sc_law_many : FnScope ["_law_pool_here", "_law_many_here", "_law_letters", "_law_signs", "_law_stem", "_law_k", "_law_place", "_law_told_here", "_law_start", "_law_names", "_law_sign"] ["_law_pool_here", "_law_many_here"] (defScope s_law_many) := ⟨rfl, rfl, rfl, by decide +kernel, rfl, by decide +kernel, by decide +kernel⟩
theorem sc_law_built : FnScope ["_law_parts", "_law_net", "_law_post", "_law_lane", "_law_start", "_law_end"] ["_law_parts"] (defScope s_law_built) := ⟨rfl, rfl, rfl, by decide +kernel, rfl, by decide +kernel, by decide +kernel⟩
theorem sc_law_ends : FnScope ["_law_parts", "_law_ends_here", "_law_lane", "_law_start", "_law_end"] ["_law_parts"] (defScope s_law_ends) := ⟨rfl, rfl, rfl, by decide +kernel, rfl, by decide +kernel, by decide +kernel⟩
theorem sc_law_ways : FnScope ["_law_parts", "_law_start", "_law_ways_here", "_law_queue", "_law_at", "_law_lane", "_law_first", "_law_second"] ["_law_parts", "_law_start"] (defScope s_law_ways) := ⟨rfl, rfl, rfl, by decide +kernel, rfl, by decide +kernel, by decide +kernel⟩
theorem sc_shortest_way : FnScope ["ends_by_lane", "first", "second", "ways", "queue", "at", "lane", "start", "end"] ["ends_by_lane", "first", "second"] (defScope s_shortest_way) := ⟨rfl, rfl, rfl, by decide +kernel, rfl, by decide +kernel, by decide +kernel⟩
theorem sc_reached_posts : FnScope ["net", "start", "found", "going", "lane", "first", "second", "post"] ["net", "start"] (defScope s_reached_posts) := ⟨rfl, rfl, rfl, by decide +kernel, rfl, by decide +kernel, by decide +kernel⟩
theorem sc_parts_of : FnScope ["net", "post", "reached", "parts", "known", "other", "posts", "lane", "inner"] ["net"] (defScope s_parts_of) := ⟨rfl, rfl, rfl, by decide +kernel, rfl, by decide +kernel, by decide +kernel⟩
theorem sc_part_with : FnScope ["net", "wanted", "part"] ["net", "wanted"] (defScope s_part_with) := ⟨rfl, rfl, rfl, by decide +kernel, rfl, by decide +kernel, by decide +kernel⟩
theorem sc_found_part : FnScope ["net", "wanted", "part", "first", "side", "second"] ["net", "wanted"] (defScope s_found_part) := ⟨rfl, rfl, rfl, by decide +kernel, rfl, by decide +kernel, by decide +kernel⟩
theorem sc_inner_ends : FnScope ["net", "lanes", "lane"] ["net", "lanes"] (defScope s_inner_ends) := ⟨rfl, rfl, rfl, by decide +kernel, rfl, by decide +kernel, by decide +kernel⟩
theorem sc_closed_walk : FnScope ["ends", "wanted", "tour", "place", "lane", "following"] ["ends", "wanted"] (defScope s_closed_walk) := ⟨rfl, rfl, rfl, by decide +kernel, rfl, by decide +kernel, by decide +kernel⟩
theorem sc_Asked___init : FnScope ["self", "net", "wanted", "missing", "lane"] ["self", "net", "wanted"] (defScope s_Asked___init) := ⟨rfl, rfl, rfl, by decide +kernel, rfl, by decide +kernel, by decide +kernel⟩
theorem sc_Asked_wanted : FnScope ["self"] ["self"] (defScope s_Asked_wanted) := ⟨rfl, rfl, rfl, by decide +kernel, rfl, by decide +kernel, by decide +kernel⟩
theorem sc_Asked_part : FnScope ["self"] ["self"] (defScope s_Asked_part) := ⟨rfl, rfl, rfl, by decide +kernel, rfl, by decide +kernel, by decide +kernel⟩
theorem sc_Asked_round : FnScope ["self", "posts", "lanes"] ["self"] (defScope s_Asked_round) := ⟨rfl, rfl, rfl, by decide +kernel, rfl, by decide +kernel, by decide +kernel⟩
theorem sc_Asked___bool : FnScope ["self"] ["self"] (defScope s_Asked___bool) := ⟨rfl, rfl, rfl, by decide +kernel, rfl, by decide +kernel, by decide +kernel⟩
theorem sc_check_same : FnScope ["one", "two", "first", "second", "missing"] ["one", "two"] (defScope s_check_same) := ⟨rfl, rfl, rfl, by decide +kernel, rfl, by decide +kernel, by decide +kernel⟩
theorem sc_parting_round : FnScope ["one", "two", "found"] ["one", "two"] (defScope s_parting_round) := ⟨rfl, rfl, rfl, by decide +kernel, rfl, by decide +kernel, by decide +kernel⟩
theorem sc_single_ring : FnScope ["asked", "posts", "lanes"] ["asked"] (defScope s_single_ring) := ⟨rfl, rfl, rfl, by decide +kernel, rfl, by decide +kernel, by decide +kernel⟩
theorem sc_parting_stretch : FnScope ["one", "two", "first", "second", "asked", "other", "stretch"] ["one", "two"] (defScope s_parting_stretch) := ⟨rfl, rfl, rfl, by decide +kernel, rfl, by decide +kernel, by decide +kernel⟩
theorem sc_law_part : FnScope ["_law_parts", "_law_lane", "_law_ends_here", "_law_start", "_law_end", "_law_ways_here", "_law_post", "_law_posts", "_law_row"] ["_law_parts", "_law_lane"] (defScope s_law_part) := ⟨rfl, rfl, rfl, by decide +kernel, rfl, by decide +kernel, by decide +kernel⟩
theorem sc_law_in_order : FnScope ["_law_parts", "_law_lanes_here", "_law_row"] ["_law_parts", "_law_lanes_here"] (defScope s_law_in_order) := ⟨rfl, rfl, rfl, by decide +kernel, rfl, by decide +kernel, by decide +kernel⟩
theorem sc_law_lanes : FnScope ["_law_parts", "_law_row"] ["_law_parts"] (defScope s_law_lanes) := ⟨rfl, rfl, rfl, by decide +kernel, rfl, by decide +kernel, by decide +kernel⟩
theorem sc_law_is_held : FnScope ["_law_parts", "_law_lanes_here", "_law_lane", "_law_part_here"] ["_law_parts", "_law_lanes_here"] (defScope s_law_is_held) := ⟨rfl, rfl, rfl, by decide +kernel, rfl, by decide +kernel, by decide +kernel⟩
theorem sc_law_held_part : FnScope ["_law_parts", "_law_wanted"] ["_law_parts", "_law_wanted"] (defScope s_law_held_part) := ⟨rfl, rfl, rfl, by decide +kernel, rfl, by decide +kernel, by decide +kernel⟩
theorem sc_law_is_round : FnScope ["_law_parts", "_law_lanes_here", "_law_wanted", "_law_ends_here", "_law_lane", "_law_k"] ["_law_parts", "_law_lanes_here", "_law_wanted"] (defScope s_law_is_round) := ⟨rfl, rfl, rfl, by decide +kernel, rfl, by decide +kernel, by decide +kernel⟩
theorem sc_law_loose_net : FnScope ["_law_pool_here", "_law_posts", "_law_lanes_here", "_law_rows", "_law_lane", "_law_start"] ["_law_pool_here", "_law_posts", "_law_lanes_here"] (defScope s_law_loose_net) := ⟨rfl, rfl, rfl, by decide +kernel, rfl, by decide +kernel, by decide +kernel⟩
theorem sc_law_told : FnScope ["_law_kind", "_law_one", "_law_two", "e"] ["_law_kind", "_law_one", "_law_two"] (defScope s_law_told) := ⟨rfl, rfl, rfl, by decide +kernel, rfl, by decide +kernel, by decide +kernel⟩
theorem sc_law_pair : FnScope ["_law_parts", "_law_wanted", "_law_ends_here", "_law_first", "_law_second"] ["_law_parts", "_law_wanted"] (defScope s_law_pair) := ⟨rfl, rfl, rfl, by decide +kernel, rfl, by decide +kernel, by decide +kernel⟩
theorem sc_law_right_side : FnScope ["_law_parts", "_law_pair_here", "_law_side", "_law_ends_here", "_law_row"] ["_law_parts", "_law_pair_here", "_law_side"] (defScope s_law_right_side) := ⟨rfl, rfl, rfl, by decide +kernel, rfl, by decide +kernel, by decide +kernel⟩
theorem sc_law_right_round : FnScope ["_law_parts", "_law_other", "_law_wanted", "_law_told_here", "_law_net", "_law_rest"] ["_law_parts", "_law_other", "_law_wanted", "_law_told_here"] (defScope s_law_right_round) := ⟨rfl, rfl, rfl, by decide +kernel, rfl, by decide +kernel, by decide +kernel⟩
theorem sc_law : FnScope ["_law_script", "_law_pool_here", "_law_lanes_here", "_law_turn", "_law_some", "_law_parts", "_law_other", "_law_k", "_law_wanted", "_law_more", "_law_one", "_law_two", "_law_lane", "_law_lacks", "_law_kind", "_law_net", "_law_bare", "_law_pair_here", "_law_told_here"] ["_law_script"] (defScope s_law) := ⟨rfl, rfl, rfl, by decide +kernel, rfl, by decide +kernel, by decide +kernel⟩
theorem sc_BadName___init : FnScope ["self", "name"] ["self", "name"] (defScope s_BadName___init) := ⟨rfl, rfl, rfl, by decide +kernel, rfl, by decide +kernel, by decide +kernel⟩
theorem sc_NameTaken___init : FnScope ["self", "name"] ["self", "name"] (defScope s_NameTaken___init) := ⟨rfl, rfl, rfl, by decide +kernel, rfl, by decide +kernel, by decide +kernel⟩
theorem sc_NoPost___init : FnScope ["self", "name"] ["self", "name"] (defScope s_NoPost___init) := ⟨rfl, rfl, rfl, by decide +kernel, rfl, by decide +kernel, by decide +kernel⟩
theorem sc_NoLane___init : FnScope ["self", "name"] ["self", "name"] (defScope s_NoLane___init) := ⟨rfl, rfl, rfl, by decide +kernel, rfl, by decide +kernel, by decide +kernel⟩
theorem sc_NoRound___init : FnScope ["self", "first", "second", "side"] ["self", "first", "second", "side"] (defScope s_NoRound___init) := ⟨rfl, rfl, rfl, by decide +kernel, rfl, by decide +kernel, by decide +kernel⟩
/-- what the top leaves -/
structure Tx (K : PySem.W.Frag) (mg : Str → Option Value) : Prop where
  v_LETTERS : ∃ u, mg "LETTERS" = some u ∧ RelV (.str "abcdefghijklmnopqrstuvwxyz") u
  n_len : mg "len" = none
  v_LONGEST : ∃ u, mg "LONGEST" = some u ∧ RelV (.int 8) u
  n_isinstance : mg "isinstance" = none
  n_str : mg "str" = none
  n_all : mg "all" = none
  v_DIGITS : ∃ u, mg "DIGITS" = some u ∧ RelV (.str "0123456789") u
  n_bool : mg "bool" = none
  n_int : mg "int" = none
  x0_EmptyWalk : excIn K (He.ga K "EmptyWalk") He.veBase "ValueError.__new__" = true ∧ keepIn K (.ref (He.ga K "EmptyWalk")) = true ∧ subIn K (.ref (He.ga K "EmptyWalk")) (.type "BaseException") = some true ∧ typeIn K (.ref (He.ga K "EmptyWalk")) = some (.type "type")
  g_EmptyWalk : mg "EmptyWalk" = some (.ref (He.ga K "EmptyWalk")) ∧ keepIn K (.ref (He.ga K "EmptyWalk")) = true
  g_is_name : mg "is_name" = some (.ref (He.ga K "is_name")) ∧ keepIn K (.ref (He.ga K "is_name")) = true
  g_BadName : mg "BadName" = some (.ref (He.ga K "BadName")) ∧ keepIn K (.ref (He.ga K "BadName")) = true
  n_list : mg "list" = none
  t0_Net___init : IsT0 K (He.dflAt ("Net", some "__init__") 0 K)
  n_tuple : mg "tuple" = none
  g_NameTaken : mg "NameTaken" = some (.ref (He.ga K "NameTaken")) ∧ keepIn K (.ref (He.ga K "NameTaken")) = true
  g_NoPost : mg "NoPost" = some (.ref (He.ga K "NoPost")) ∧ keepIn K (.ref (He.ga K "NoPost")) = true
  g_NoLane : mg "NoLane" = some (.ref (He.ga K "NoLane")) ∧ keepIn K (.ref (He.ga K "NoLane")) = true
  mk_Net : Mk K (He.ga K "Net") (He.ma K (He.ga K "Net") "__init__")
  g_Net : mg "Net" = some (.ref (He.ga K "Net")) ∧ keepIn K (.ref (He.ga K "Net")) = true
  g_check_lanes : mg "check_lanes" = some (.ref (He.ga K "check_lanes")) ∧ keepIn K (.ref (He.ga K "check_lanes")) = true
  mk_Round : Mk K (He.ga K "Round") (He.ma K (He.ga K "Round") "__init__")
  g_Round : mg "Round" = some (.ref (He.ga K "Round")) ∧ keepIn K (.ref (He.ga K "Round")) = true
  g_law_take : mg "_law_take" = some (.ref (He.ga K "_law_take")) ∧ keepIn K (.ref (He.ga K "_law_take")) = true
  n_range : mg "range" = none
  cl_Net : Cls K (He.ga K "Net")
  me_Net_post : Meth K (He.ga K "Net") "post" (He.ma K (He.ga K "Net") "post")
  me_Net_lane : Meth K (He.ga K "Net") "lane" (He.ma K (He.ga K "Net") "lane")
  g_reached_posts : mg "reached_posts" = some (.ref (He.ga K "reached_posts")) ∧ keepIn K (.ref (He.ga K "reached_posts")) = true
  g_first_missing : mg "first_missing" = some (.ref (He.ga K "first_missing")) ∧ keepIn K (.ref (He.ga K "first_missing")) = true
  g_parts_of : mg "parts_of" = some (.ref (He.ga K "parts_of")) ∧ keepIn K (.ref (He.ga K "parts_of")) = true
  g_part_with : mg "part_with" = some (.ref (He.ga K "part_with")) ∧ keepIn K (.ref (He.ga K "part_with")) = true
  me_Net_end_of : Meth K (He.ga K "Net") "end_of" (He.ma K (He.ga K "Net") "end_of")
  me_Net_start_of : Meth K (He.ga K "Net") "start_of" (He.ma K (He.ga K "Net") "start_of")
  g_NoRound : mg "NoRound" = some (.ref (He.ga K "NoRound")) ∧ keepIn K (.ref (He.ga K "NoRound")) = true
  n_enumerate : mg "enumerate" = none
  g_shortest_way : mg "shortest_way" = some (.ref (He.ga K "shortest_way")) ∧ keepIn K (.ref (He.ga K "shortest_way")) = true
  x0_NothingWanted : excIn K (He.ga K "NothingWanted") He.veBase "ValueError.__new__" = true ∧ keepIn K (.ref (He.ga K "NothingWanted")) = true ∧ subIn K (.ref (He.ga K "NothingWanted")) (.type "BaseException") = some true ∧ typeIn K (.ref (He.ga K "NothingWanted")) = some (.type "type")
  g_NothingWanted : mg "NothingWanted" = some (.ref (He.ga K "NothingWanted")) ∧ keepIn K (.ref (He.ga K "NothingWanted")) = true
  me_Net_copy : Meth K (He.ga K "Net") "copy" (He.ma K (He.ga K "Net") "copy")
  pr_Net_lanes : PropOf K (He.ga K "Net") "lanes" (He.ma K (He.ga K "Net") "lanes") (pga K (He.ga K "Net") "lanes")
  g_found_part : mg "found_part" = some (.ref (He.ga K "found_part")) ∧ keepIn K (.ref (He.ga K "found_part")) = true
  g_closed_walk : mg "closed_walk" = some (.ref (He.ga K "closed_walk")) ∧ keepIn K (.ref (He.ga K "closed_walk")) = true
  g_inner_ends : mg "inner_ends" = some (.ref (He.ga K "inner_ends")) ∧ keepIn K (.ref (He.ga K "inner_ends")) = true
  cl_Asked : Cls K (He.ga K "Asked")
  pr_Asked_wanted : PropOf K (He.ga K "Asked") "wanted" (He.ma K (He.ga K "Asked") "wanted") (pga K (He.ga K "Asked") "wanted")
  g_check_same : mg "check_same" = some (.ref (He.ga K "check_same")) ∧ keepIn K (.ref (He.ga K "check_same")) = true
  sm_Asked_bool : Sm K (He.ga K "Asked") "__bool__" (He.ma K (He.ga K "Asked") "__bool__")
  me_Asked_round : Meth K (He.ga K "Asked") "round" (He.ma K (He.ga K "Asked") "round")
  me_Asked_part : Meth K (He.ga K "Asked") "part" (He.ma K (He.ga K "Asked") "part")
  cl_Round : Cls K (He.ga K "Round")
  me_Round_root : Meth K (He.ga K "Round") "root" (He.ma K (He.ga K "Round") "root")
  g_single_ring : mg "single_ring" = some (.ref (He.ga K "single_ring")) ∧ keepIn K (.ref (He.ga K "single_ring")) = true
  g_law_ends : mg "_law_ends" = some (.ref (He.ga K "_law_ends")) ∧ keepIn K (.ref (He.ga K "_law_ends")) = true
  g_law_ways : mg "_law_ways" = some (.ref (He.ga K "_law_ways")) ∧ keepIn K (.ref (He.ga K "_law_ways")) = true
  g_law_lanes : mg "_law_lanes" = some (.ref (He.ga K "_law_lanes")) ∧ keepIn K (.ref (He.ga K "_law_lanes")) = true
  g_law_part : mg "_law_part" = some (.ref (He.ga K "_law_part")) ∧ keepIn K (.ref (He.ga K "_law_part")) = true
  g_law_is_held : mg "_law_is_held" = some (.ref (He.ga K "_law_is_held")) ∧ keepIn K (.ref (He.ga K "_law_is_held")) = true
  xc_NoRound : Xc K (He.ga K "NoRound")
  xn_NoRound_side : findIn K (.ref (He.ga K "NoRound")) "side" = some none
  xn_NoRound_second : findIn K (.ref (He.ga K "NoRound")) "second" = some none
  xn_NoRound_first : findIn K (.ref (He.ga K "NoRound")) "first" = some none
  xc_NoLane : Xc K (He.ga K "NoLane")
  xn_NoLane_name : findIn K (.ref (He.ga K "NoLane")) "name" = some none
  g_parting_round : mg "parting_round" = some (.ref (He.ga K "parting_round")) ∧ keepIn K (.ref (He.ga K "parting_round")) = true
  g_parting_stretch : mg "parting_stretch" = some (.ref (He.ga K "parting_stretch")) ∧ keepIn K (.ref (He.ga K "parting_stretch")) = true
  g_law_held_part : mg "_law_held_part" = some (.ref (He.ga K "_law_held_part")) ∧ keepIn K (.ref (He.ga K "_law_held_part")) = true
  g_law_is_round : mg "_law_is_round" = some (.ref (He.ga K "_law_is_round")) ∧ keepIn K (.ref (He.ga K "_law_is_round")) = true
  pr_Round_lanes : PropOf K (He.ga K "Round") "lanes" (He.ma K (He.ga K "Round") "lanes") (pga K (He.ga K "Round") "lanes")
  g_law_pool : mg "_law_pool" = some (.ref (He.ga K "_law_pool")) ∧ keepIn K (.ref (He.ga K "_law_pool")) = true
  g_law_cell : mg "_law_cell" = some (.ref (He.ga K "_law_cell")) ∧ keepIn K (.ref (He.ga K "_law_cell")) = true
  g_law_many : mg "_law_many" = some (.ref (He.ga K "_law_many")) ∧ keepIn K (.ref (He.ga K "_law_many")) = true
  g_law_loose_net : mg "_law_loose_net" = some (.ref (He.ga K "_law_loose_net")) ∧ keepIn K (.ref (He.ga K "_law_loose_net")) = true
  g_law_in_order : mg "_law_in_order" = some (.ref (He.ga K "_law_in_order")) ∧ keepIn K (.ref (He.ga K "_law_in_order")) = true
  mk_Asked : Mk K (He.ga K "Asked") (He.ma K (He.ga K "Asked") "__init__")
  g_Asked : mg "Asked" = some (.ref (He.ga K "Asked")) ∧ keepIn K (.ref (He.ga K "Asked")) = true
  g_law_built : mg "_law_built" = some (.ref (He.ga K "_law_built")) ∧ keepIn K (.ref (He.ga K "_law_built")) = true
  g_law_told : mg "_law_told" = some (.ref (He.ga K "_law_told")) ∧ keepIn K (.ref (He.ga K "_law_told")) = true
  g_law_right_round : mg "_law_right_round" = some (.ref (He.ga K "_law_right_round")) ∧ keepIn K (.ref (He.ga K "_law_right_round")) = true
  g_law_pair : mg "_law_pair" = some (.ref (He.ga K "_law_pair")) ∧ keepIn K (.ref (He.ga K "_law_pair")) = true
  g_law_right_side : mg "_law_right_side" = some (.ref (He.ga K "_law_right_side")) ∧ keepIn K (.ref (He.ga K "_law_right_side")) = true
  xc_BadName : Xc K (He.ga K "BadName")
  xi_BadName : findIn K (.ref (He.ga K "BadName")) "__init__" = some (some (.ref (He.ma K (He.ga K "BadName") "__init__"))) ∧ typeIn K (.ref (He.ma K (He.ga K "BadName") "__init__")) = some (.type "function")
  xn_BadName_name : findIn K (.ref (He.ga K "BadName")) "name" = some none
  xc_NameTaken : Xc K (He.ga K "NameTaken")
  xi_NameTaken : findIn K (.ref (He.ga K "NameTaken")) "__init__" = some (some (.ref (He.ma K (He.ga K "NameTaken") "__init__"))) ∧ typeIn K (.ref (He.ma K (He.ga K "NameTaken") "__init__")) = some (.type "function")
  xn_NameTaken_name : findIn K (.ref (He.ga K "NameTaken")) "name" = some none
  xc_NoPost : Xc K (He.ga K "NoPost")
  xi_NoPost : findIn K (.ref (He.ga K "NoPost")) "__init__" = some (some (.ref (He.ma K (He.ga K "NoPost") "__init__"))) ∧ typeIn K (.ref (He.ma K (He.ga K "NoPost") "__init__")) = some (.type "function")
  xn_NoPost_name : findIn K (.ref (He.ga K "NoPost")) "name" = some none
  xi_NoLane : findIn K (.ref (He.ga K "NoLane")) "__init__" = some (some (.ref (He.ma K (He.ga K "NoLane") "__init__"))) ∧ typeIn K (.ref (He.ma K (He.ga K "NoLane") "__init__")) = some (.type "function")
  xi_NoRound : findIn K (.ref (He.ga K "NoRound")) "__init__" = some (some (.ref (He.ma K (He.ga K "NoRound") "__init__"))) ∧ typeIn K (.ref (He.ma K (He.ga K "NoRound") "__init__")) = some (.type "function")
  g_law : mg "law" = some (.ref (He.ga K "law")) ∧ keepIn K (.ref (He.ga K "law")) = true
  kt_NoneType_str : kitOne K (.type "NoneType") (.type "str") = some false
  kt_bool_str : kitOne K (.type "bool") (.type "str") = some false
  kt_int_str : kitOne K (.type "int") (.type "str") = some false
  kt_list_str : kitOne K (.type "list") (.type "str") = some false
  kt_tuple_str : kitOne K (.type "tuple") (.type "str") = some false
  kt_str_str : kitOne K (.type "str") (.type "str") = some true
  kt_NoneType_int : kitOne K (.type "NoneType") (.type "int") = some false
  kt_str_int : kitOne K (.type "str") (.type "int") = some false
  kt_list_int : kitOne K (.type "list") (.type "int") = some false
  kt_tuple_int : kitOne K (.type "tuple") (.type "int") = some false
  kt_int_int : kitOne K (.type "int") (.type "int") = some true
  kt_int_bool : kitOne K (.type "int") (.type "bool") = some false
  kt_bool_int : kitOne K (.type "bool") (.type "int") = some true
  kt_bool_bool : kitOne K (.type "bool") (.type "bool") = some true
  na_Net_order : NoAttr K (He.ga K "Net") "order"
  na_Net_ends_by_lane : NoAttr K (He.ga K "Net") "ends_by_lane"
  na_Round_line : NoAttr K (He.ga K "Round") "line"
  na_Asked_base : NoAttr K (He.ga K "Asked") "base"
  na_Asked_goal : NoAttr K (He.ga K "Asked") "goal"
  ex_NoRound_NoLane : exmOne K (.ref (He.ga K "NoRound")) (.ref (He.ga K "NoLane")) = some false
  ex_NoRound_NoRound : exmOne K (.ref (He.ga K "NoRound")) (.ref (He.ga K "NoRound")) = some true
  ex_NoLane_NoLane : exmOne K (.ref (He.ga K "NoLane")) (.ref (He.ga K "NoLane")) = some true
  d_is_name : ∃ fd, FunD K "is_name" "is_name" (defArgs s_is_name) (defBody s_is_name) (defScope s_is_name) [] [] (He.ga K "is_name") fd
  d_is_whole : ∃ fd, FunD K "is_whole" "is_whole" (defArgs s_is_whole) (defBody s_is_whole) (defScope s_is_whole) [] [] (He.ga K "is_whole") fd
  d_first_missing : ∃ fd, FunD K "first_missing" "first_missing" (defArgs s_first_missing) (defBody s_first_missing) (defScope s_first_missing) [] [] (He.ga K "first_missing") fd
  d_check_lanes : ∃ fd, FunD K "check_lanes" "check_lanes" (defArgs s_check_lanes) (defBody s_check_lanes) (defScope s_check_lanes) [] [] (He.ga K "check_lanes") fd
  d_Net___init : ∃ fd, FunD K "__init__" "Net.__init__" (defArgs s_Net___init) (defBody s_Net___init) (defScope s_Net___init) [.ref (He.dflAt ("Net", some "__init__") 0 K), .non] [] (He.ma K (He.ga K "Net") "__init__") fd
  d_Net_posts : ∃ fd, FunD K "posts" "Net.posts" (defArgs s_Net_posts) (defBody s_Net_posts) (defScope s_Net_posts) [] [] (pga K (He.ga K "Net") "posts") fd
  d_Net_lanes : ∃ fd, FunD K "lanes" "Net.lanes" (defArgs s_Net_lanes) (defBody s_Net_lanes) (defScope s_Net_lanes) [] [] (pga K (He.ga K "Net") "lanes") fd
  d_Net_post : ∃ fd, FunD K "post" "Net.post" (defArgs s_Net_post) (defBody s_Net_post) (defScope s_Net_post) [] [] (He.ma K (He.ga K "Net") "post") fd
  d_Net_lane : ∃ fd, FunD K "lane" "Net.lane" (defArgs s_Net_lane) (defBody s_Net_lane) (defScope s_Net_lane) [] [] (He.ma K (He.ga K "Net") "lane") fd
  d_Net_start_of : ∃ fd, FunD K "start_of" "Net.start_of" (defArgs s_Net_start_of) (defBody s_Net_start_of) (defScope s_Net_start_of) [] [] (He.ma K (He.ga K "Net") "start_of") fd
  d_Net_end_of : ∃ fd, FunD K "end_of" "Net.end_of" (defArgs s_Net_end_of) (defBody s_Net_end_of) (defScope s_Net_end_of) [] [] (He.ma K (He.ga K "Net") "end_of") fd
  d_Net_copy : ∃ fd, FunD K "copy" "Net.copy" (defArgs s_Net_copy) (defBody s_Net_copy) (defScope s_Net_copy) [] [] (He.ma K (He.ga K "Net") "copy") fd
  d_Round___init : ∃ fd, FunD K "__init__" "Round.__init__" (defArgs s_Round___init) (defBody s_Round___init) (defScope s_Round___init) [] [] (He.ma K (He.ga K "Round") "__init__") fd
  d_Round_lanes : ∃ fd, FunD K "lanes" "Round.lanes" (defArgs s_Round_lanes) (defBody s_Round_lanes) (defScope s_Round_lanes) [] [] (pga K (He.ga K "Round") "lanes") fd
  d_Round_root : ∃ fd, FunD K "root" "Round.root" (defArgs s_Round_root) (defBody s_Round_root) (defScope s_Round_root) [] [] (He.ma K (He.ga K "Round") "root") fd
  d_law_cell : ∃ fd, FunD K "_law_cell" "_law_cell" (defArgs s_law_cell) (defBody s_law_cell) (defScope s_law_cell) [] [] (He.ga K "_law_cell") fd
  d_law_pool : ∃ fd, FunD K "_law_pool" "_law_pool" (defArgs s_law_pool) (defBody s_law_pool) (defScope s_law_pool) [] [] (He.ga K "_law_pool") fd
  d_law_take : ∃ fd, FunD K "_law_take" "_law_take" (defArgs s_law_take) (defBody s_law_take) (defScope s_law_take) [] [] (He.ga K "_law_take") fd
  d_law_many : ∃ fd, FunD K "_law_many" "_law_many" (defArgs s_law_many) (defBody s_law_many) (defScope s_law_many) [] [] (He.ga K "_law_many") fd
  d_law_built : ∃ fd, FunD K "_law_built" "_law_built" (defArgs s_law_built) (defBody s_law_built) (defScope s_law_built) [] [] (He.ga K "_law_built") fd
  d_law_ends : ∃ fd, FunD K "_law_ends" "_law_ends" (defArgs s_law_ends) (defBody s_law_ends) (defScope s_law_ends) [] [] (He.ga K "_law_ends") fd
  d_law_ways : ∃ fd, FunD K "_law_ways" "_law_ways" (defArgs s_law_ways) (defBody s_law_ways) (defScope s_law_ways) [] [] (He.ga K "_law_ways") fd
  d_shortest_way : ∃ fd, FunD K "shortest_way" "shortest_way" (defArgs s_shortest_way) (defBody s_shortest_way) (defScope s_shortest_way) [] [] (He.ga K "shortest_way") fd
  d_reached_posts : ∃ fd, FunD K "reached_posts" "reached_posts" (defArgs s_reached_posts) (defBody s_reached_posts) (defScope s_reached_posts) [] [] (He.ga K "reached_posts") fd
  d_parts_of : ∃ fd, FunD K "parts_of" "parts_of" (defArgs s_parts_of) (defBody s_parts_of) (defScope s_parts_of) [] [] (He.ga K "parts_of") fd
  d_part_with : ∃ fd, FunD K "part_with" "part_with" (defArgs s_part_with) (defBody s_part_with) (defScope s_part_with) [] [] (He.ga K "part_with") fd
  d_found_part : ∃ fd, FunD K "found_part" "found_part" (defArgs s_found_part) (defBody s_found_part) (defScope s_found_part) [] [] (He.ga K "found_part") fd
  d_inner_ends : ∃ fd, FunD K "inner_ends" "inner_ends" (defArgs s_inner_ends) (defBody s_inner_ends) (defScope s_inner_ends) [] [] (He.ga K "inner_ends") fd
  d_closed_walk : ∃ fd, FunD K "closed_walk" "closed_walk" (defArgs s_closed_walk) (defBody s_closed_walk) (defScope s_closed_walk) [] [] (He.ga K "closed_walk") fd
  d_Asked___init : ∃ fd, FunD K "__init__" "Asked.__init__" (defArgs s_Asked___init) (defBody s_Asked___init) (defScope s_Asked___init) [] [] (He.ma K (He.ga K "Asked") "__init__") fd
  d_Asked_wanted : ∃ fd, FunD K "wanted" "Asked.wanted" (defArgs s_Asked_wanted) (defBody s_Asked_wanted) (defScope s_Asked_wanted) [] [] (pga K (He.ga K "Asked") "wanted") fd
  d_Asked_part : ∃ fd, FunD K "part" "Asked.part" (defArgs s_Asked_part) (defBody s_Asked_part) (defScope s_Asked_part) [] [] (He.ma K (He.ga K "Asked") "part") fd
  d_Asked_round : ∃ fd, FunD K "round" "Asked.round" (defArgs s_Asked_round) (defBody s_Asked_round) (defScope s_Asked_round) [] [] (He.ma K (He.ga K "Asked") "round") fd
  d_Asked___bool : ∃ fd, FunD K "__bool__" "Asked.__bool__" (defArgs s_Asked___bool) (defBody s_Asked___bool) (defScope s_Asked___bool) [] [] (He.ma K (He.ga K "Asked") "__bool__") fd
  d_check_same : ∃ fd, FunD K "check_same" "check_same" (defArgs s_check_same) (defBody s_check_same) (defScope s_check_same) [] [] (He.ga K "check_same") fd
  d_parting_round : ∃ fd, FunD K "parting_round" "parting_round" (defArgs s_parting_round) (defBody s_parting_round) (defScope s_parting_round) [] [] (He.ga K "parting_round") fd
  d_single_ring : ∃ fd, FunD K "single_ring" "single_ring" (defArgs s_single_ring) (defBody s_single_ring) (defScope s_single_ring) [] [] (He.ga K "single_ring") fd
  d_parting_stretch : ∃ fd, FunD K "parting_stretch" "parting_stretch" (defArgs s_parting_stretch) (defBody s_parting_stretch) (defScope s_parting_stretch) [] [] (He.ga K "parting_stretch") fd
  d_law_part : ∃ fd, FunD K "_law_part" "_law_part" (defArgs s_law_part) (defBody s_law_part) (defScope s_law_part) [] [] (He.ga K "_law_part") fd
  d_law_in_order : ∃ fd, FunD K "_law_in_order" "_law_in_order" (defArgs s_law_in_order) (defBody s_law_in_order) (defScope s_law_in_order) [] [] (He.ga K "_law_in_order") fd
  d_law_lanes : ∃ fd, FunD K "_law_lanes" "_law_lanes" (defArgs s_law_lanes) (defBody s_law_lanes) (defScope s_law_lanes) [] [] (He.ga K "_law_lanes") fd
  d_law_is_held : ∃ fd, FunD K "_law_is_held" "_law_is_held" (defArgs s_law_is_held) (defBody s_law_is_held) (defScope s_law_is_held) [] [] (He.ga K "_law_is_held") fd
  d_law_held_part : ∃ fd, FunD K "_law_held_part" "_law_held_part" (defArgs s_law_held_part) (defBody s_law_held_part) (defScope s_law_held_part) [] [] (He.ga K "_law_held_part") fd
  d_law_is_round : ∃ fd, FunD K "_law_is_round" "_law_is_round" (defArgs s_law_is_round) (defBody s_law_is_round) (defScope s_law_is_round) [] [] (He.ga K "_law_is_round") fd
  d_law_loose_net : ∃ fd, FunD K "_law_loose_net" "_law_loose_net" (defArgs s_law_loose_net) (defBody s_law_loose_net) (defScope s_law_loose_net) [] [] (He.ga K "_law_loose_net") fd
  d_law_told : ∃ fd, FunD K "_law_told" "_law_told" (defArgs s_law_told) (defBody s_law_told) (defScope s_law_told) [] [] (He.ga K "_law_told") fd
  d_law_pair : ∃ fd, FunD K "_law_pair" "_law_pair" (defArgs s_law_pair) (defBody s_law_pair) (defScope s_law_pair) [] [] (He.ga K "_law_pair") fd
  d_law_right_side : ∃ fd, FunD K "_law_right_side" "_law_right_side" (defArgs s_law_right_side) (defBody s_law_right_side) (defScope s_law_right_side) [] [] (He.ga K "_law_right_side") fd
  d_law_right_round : ∃ fd, FunD K "_law_right_round" "_law_right_round" (defArgs s_law_right_round) (defBody s_law_right_round) (defScope s_law_right_round) [] [] (He.ga K "_law_right_round") fd
  d_law : ∃ fd, FunD K "law" "law" (defArgs s_law) (defBody s_law) (defScope s_law) [] [] (He.ga K "law") fd
  d_BadName___init : ∃ fd, FunD K "__init__" "BadName.__init__" (defArgs s_BadName___init) (defBody s_BadName___init) (defScope s_BadName___init) [] [] (He.ma K (He.ga K "BadName") "__init__") fd
  d_NameTaken___init : ∃ fd, FunD K "__init__" "NameTaken.__init__" (defArgs s_NameTaken___init) (defBody s_NameTaken___init) (defScope s_NameTaken___init) [] [] (He.ma K (He.ga K "NameTaken") "__init__") fd
  d_NoPost___init : ∃ fd, FunD K "__init__" "NoPost.__init__" (defArgs s_NoPost___init) (defBody s_NoPost___init) (defScope s_NoPost___init) [] [] (He.ma K (He.ga K "NoPost") "__init__") fd
  d_NoLane___init : ∃ fd, FunD K "__init__" "NoLane.__init__" (defArgs s_NoLane___init) (defBody s_NoLane___init) (defScope s_NoLane___init) [] [] (He.ma K (He.ga K "NoLane") "__init__") fd
  d_NoRound___init : ∃ fd, FunD K "__init__" "NoRound.__init__" (defArgs s_NoRound___init) (defBody s_NoRound___init) (defScope s_NoRound___init) [] [] (He.ma K (He.ga K "NoRound") "__init__") fd
def exs0 : List Fx := [fStr "LETTERS" "abcdefghijklmnopqrstuvwxyz", fFree "len", fInt "LONGEST" 8, fFree "isinstance", fFree "str", fFree "all", fStr "DIGITS" "0123456789", fFree "bool", fFree "int", fX0 "EmptyWalk", fGlo "EmptyWalk", fGlo "is_name", fGlo "BadName", fFree "list", fT0 ("Net", some "__init__") 0, fFree "tuple", fGlo "NameTaken", fGlo "NoPost", fGlo "NoLane", fMkr "Net", fGlo "Net", fGlo "check_lanes", fMkr "Round", fGlo "Round", fGlo "_law_take", fFree "range", fCls "Net", fMeth "Net" "post", fMeth "Net" "lane", fGlo "reached_posts"]
def exs1 : List Fx := [fGlo "first_missing", fGlo "parts_of", fGlo "part_with", fMeth "Net" "end_of", fMeth "Net" "start_of", fGlo "NoRound", fFree "enumerate", fGlo "shortest_way", fX0 "NothingWanted", fGlo "NothingWanted", fMeth "Net" "copy", fProp "Net" "lanes", fGlo "found_part", fGlo "closed_walk", fGlo "inner_ends", fCls "Asked", fProp "Asked" "wanted", fGlo "check_same", fSm "Asked" "__bool__", fMeth "Asked" "round", fMeth "Asked" "part", fCls "Round", fMeth "Round" "root", fGlo "single_ring", fGlo "_law_ends", fGlo "_law_ways", fGlo "_law_lanes", fGlo "_law_part", fGlo "_law_is_held", fXc "NoRound"]
def exs2 : List Fx := [fNoat "NoRound" "side", fNoat "NoRound" "second", fNoat "NoRound" "first", fXc "NoLane", fNoat "NoLane" "name", fGlo "parting_round", fGlo "parting_stretch", fGlo "_law_held_part", fGlo "_law_is_round", fProp "Round" "lanes", fGlo "_law_pool", fGlo "_law_cell", fGlo "_law_many", fGlo "_law_loose_net", fGlo "_law_in_order", fMkr "Asked", fGlo "Asked", fGlo "_law_built", fGlo "_law_told", fGlo "_law_right_round", fGlo "_law_pair", fGlo "_law_right_side", fXc "BadName", fXi "BadName", fNoat "BadName" "name", fXc "NameTaken", fXi "NameTaken", fNoat "NameTaken" "name", fXc "NoPost", fXi "NoPost"]
def exs3 : List Fx := [fNoat "NoPost" "name", fXi "NoLane", fXi "NoRound", fGlo "law", fKit "NoneType" "str" false, fKit "bool" "str" false, fKit "int" "str" false, fKit "list" "str" false, fKit "tuple" "str" false, fKit "str" "str" true, fKit "NoneType" "int" false, fKit "str" "int" false, fKit "list" "int" false, fKit "tuple" "int" false, fKit "int" "int" true, fKit "int" "bool" false, fKit "bool" "int" true, fKit "bool" "bool" true, fNoat "Net" "order", fNoat "Net" "ends_by_lane", fNoat "Round" "line", fNoat "Asked" "base", fNoat "Asked" "goal", fExm "NoRound" "NoLane" false, fExm "NoRound" "NoRound" true, fExm "NoLane" "NoLane" true]
abbrev exs : List Fx := exs0 ++ exs1 ++ exs2 ++ exs3
def dfs0 : List Df := [⟨fun K => (He.ga K "is_name"), "is_name", "is_name", defArgs s_is_name, defBody s_is_name, defScope s_is_name, fun K => []⟩, ⟨fun K => (He.ga K "is_whole"), "is_whole", "is_whole", defArgs s_is_whole, defBody s_is_whole, defScope s_is_whole, fun K => []⟩, ⟨fun K => (He.ga K "first_missing"), "first_missing", "first_missing", defArgs s_first_missing, defBody s_first_missing, defScope s_first_missing, fun K => []⟩, ⟨fun K => (He.ga K "check_lanes"), "check_lanes", "check_lanes", defArgs s_check_lanes, defBody s_check_lanes, defScope s_check_lanes, fun K => []⟩, ⟨fun K => (He.ma K (He.ga K "Net") "__init__"), "__init__", "Net.__init__", defArgs s_Net___init, defBody s_Net___init, defScope s_Net___init, fun K => [.ref (He.dflAt ("Net", some "__init__") 0 K), .non]⟩, ⟨fun K => (pga K (He.ga K "Net") "posts"), "posts", "Net.posts", defArgs s_Net_posts, defBody s_Net_posts, defScope s_Net_posts, fun K => []⟩, ⟨fun K => (pga K (He.ga K "Net") "lanes"), "lanes", "Net.lanes", defArgs s_Net_lanes, defBody s_Net_lanes, defScope s_Net_lanes, fun K => []⟩, ⟨fun K => (He.ma K (He.ga K "Net") "post"), "post", "Net.post", defArgs s_Net_post, defBody s_Net_post, defScope s_Net_post, fun K => []⟩, ⟨fun K => (He.ma K (He.ga K "Net") "lane"), "lane", "Net.lane", defArgs s_Net_lane, defBody s_Net_lane, defScope s_Net_lane, fun K => []⟩, ⟨fun K => (He.ma K (He.ga K "Net") "start_of"), "start_of", "Net.start_of", defArgs s_Net_start_of, defBody s_Net_start_of, defScope s_Net_start_of, fun K => []⟩, ⟨fun K => (He.ma K (He.ga K "Net") "end_of"), "end_of", "Net.end_of", defArgs s_Net_end_of, defBody s_Net_end_of, defScope s_Net_end_of, fun K => []⟩, ⟨fun K => (He.ma K (He.ga K "Net") "copy"), "copy", "Net.copy", defArgs s_Net_copy, defBody s_Net_copy, defScope s_Net_copy, fun K => []⟩, ⟨fun K => (He.ma K (He.ga K "Round") "__init__"), "__init__", "Round.__init__", defArgs s_Round___init, defBody s_Round___init, defScope s_Round___init, fun K => []⟩, ⟨fun K => (pga K (He.ga K "Round") "lanes"), "lanes", "Round.lanes", defArgs s_Round_lanes, defBody s_Round_lanes, defScope s_Round_lanes, fun K => []⟩, ⟨fun K => (He.ma K (He.ga K "Round") "root"), "root", "Round.root", defArgs s_Round_root, defBody s_Round_root, defScope s_Round_root, fun K => []⟩, ⟨fun K => (He.ga K "_law_cell"), "_law_cell", "_law_cell", defArgs s_law_cell, defBody s_law_cell, defScope s_law_cell, fun K => []⟩, ⟨fun K => (He.ga K "_law_pool"), "_law_pool", "_law_pool", defArgs s_law_pool, defBody s_law_pool, defScope s_law_pool, fun K => []⟩, ⟨fun K => (He.ga K "_law_take"), "_law_take", "_law_take", defArgs s_law_take, defBody s_law_take, defScope s_law_take, fun K => []⟩, ⟨fun K => (He.ga K "_law_many"), "_law_many", "_law_many", defArgs s_law_many, defBody s_law_many, defScope s_law_many, fun K => []⟩, ⟨fun K => (He.ga K "_law_built"), "_law_built", "_law_built", defArgs s_law_built, defBody s_law_built, defScope s_law_built, fun K => []⟩, ⟨fun K => (He.ga K "_law_ends"), "_law_ends", "_law_ends", defArgs s_law_ends, defBody s_law_ends, defScope s_law_ends, fun K => []⟩, ⟨fun K => (He.ga K "_law_ways"), "_law_ways", "_law_ways", defArgs s_law_ways, defBody s_law_ways, defScope s_law_ways, fun K => []⟩, ⟨fun K => (He.ga K "shortest_way"), "shortest_way", "shortest_way", defArgs s_shortest_way, defBody s_shortest_way, defScope s_shortest_way, fun K => []⟩, ⟨fun K => (He.ga K "reached_posts"), "reached_posts", "reached_posts", defArgs s_reached_posts, defBody s_reached_posts, defScope s_reached_posts, fun K => []⟩, ⟨fun K => (He.ga K "parts_of"), "parts_of", "parts_of", defArgs s_parts_of, defBody s_parts_of, defScope s_parts_of, fun K => []⟩, ⟨fun K => (He.ga K "part_with"), "part_with", "part_with", defArgs s_part_with, defBody s_part_with, defScope s_part_with, fun K => []⟩, ⟨fun K => (He.ga K "found_part"), "found_part", "found_part", defArgs s_found_part, defBody s_found_part, defScope s_found_part, fun K => []⟩, ⟨fun K => (He.ga K "inner_ends"), "inner_ends", "inner_ends", defArgs s_inner_ends, defBody s_inner_ends, defScope s_inner_ends, fun K => []⟩, ⟨fun K => (He.ga K "closed_walk"), "closed_walk", "closed_walk", defArgs s_closed_walk, defBody s_closed_walk, defScope s_closed_walk, fun K => []⟩, ⟨fun K => (He.ma K (He.ga K "Asked") "__init__"), "__init__", "Asked.__init__", defArgs s_Asked___init, defBody s_Asked___init, defScope s_Asked___init, fun K => []⟩]
def dfs1 : List Df := [⟨fun K => (pga K (He.ga K "Asked") "wanted"), "wanted", "Asked.wanted", defArgs s_Asked_wanted, defBody s_Asked_wanted, defScope s_Asked_wanted, fun K => []⟩, ⟨fun K => (He.ma K (He.ga K "Asked") "part"), "part", "Asked.part", defArgs s_Asked_part, defBody s_Asked_part, defScope s_Asked_part, fun K => []⟩, ⟨fun K => (He.ma K (He.ga K "Asked") "round"), "round", "Asked.round", defArgs s_Asked_round, defBody s_Asked_round, defScope s_Asked_round, fun K => []⟩, ⟨fun K => (He.ma K (He.ga K "Asked") "__bool__"), "__bool__", "Asked.__bool__", defArgs s_Asked___bool, defBody s_Asked___bool, defScope s_Asked___bool, fun K => []⟩, ⟨fun K => (He.ga K "check_same"), "check_same", "check_same", defArgs s_check_same, defBody s_check_same, defScope s_check_same, fun K => []⟩, ⟨fun K => (He.ga K "parting_round"), "parting_round", "parting_round", defArgs s_parting_round, defBody s_parting_round, defScope s_parting_round, fun K => []⟩, ⟨fun K => (He.ga K "single_ring"), "single_ring", "single_ring", defArgs s_single_ring, defBody s_single_ring, defScope s_single_ring, fun K => []⟩, ⟨fun K => (He.ga K "parting_stretch"), "parting_stretch", "parting_stretch", defArgs s_parting_stretch, defBody s_parting_stretch, defScope s_parting_stretch, fun K => []⟩, ⟨fun K => (He.ga K "_law_part"), "_law_part", "_law_part", defArgs s_law_part, defBody s_law_part, defScope s_law_part, fun K => []⟩, ⟨fun K => (He.ga K "_law_in_order"), "_law_in_order", "_law_in_order", defArgs s_law_in_order, defBody s_law_in_order, defScope s_law_in_order, fun K => []⟩, ⟨fun K => (He.ga K "_law_lanes"), "_law_lanes", "_law_lanes", defArgs s_law_lanes, defBody s_law_lanes, defScope s_law_lanes, fun K => []⟩, ⟨fun K => (He.ga K "_law_is_held"), "_law_is_held", "_law_is_held", defArgs s_law_is_held, defBody s_law_is_held, defScope s_law_is_held, fun K => []⟩, ⟨fun K => (He.ga K "_law_held_part"), "_law_held_part", "_law_held_part", defArgs s_law_held_part, defBody s_law_held_part, defScope s_law_held_part, fun K => []⟩, ⟨fun K => (He.ga K "_law_is_round"), "_law_is_round", "_law_is_round", defArgs s_law_is_round, defBody s_law_is_round, defScope s_law_is_round, fun K => []⟩, ⟨fun K => (He.ga K "_law_loose_net"), "_law_loose_net", "_law_loose_net", defArgs s_law_loose_net, defBody s_law_loose_net, defScope s_law_loose_net, fun K => []⟩, ⟨fun K => (He.ga K "_law_told"), "_law_told", "_law_told", defArgs s_law_told, defBody s_law_told, defScope s_law_told, fun K => []⟩, ⟨fun K => (He.ga K "_law_pair"), "_law_pair", "_law_pair", defArgs s_law_pair, defBody s_law_pair, defScope s_law_pair, fun K => []⟩, ⟨fun K => (He.ga K "_law_right_side"), "_law_right_side", "_law_right_side", defArgs s_law_right_side, defBody s_law_right_side, defScope s_law_right_side, fun K => []⟩, ⟨fun K => (He.ga K "_law_right_round"), "_law_right_round", "_law_right_round", defArgs s_law_right_round, defBody s_law_right_round, defScope s_law_right_round, fun K => []⟩, ⟨fun K => (He.ga K "law"), "law", "law", defArgs s_law, defBody s_law, defScope s_law, fun K => []⟩, ⟨fun K => (He.ma K (He.ga K "BadName") "__init__"), "__init__", "BadName.__init__", defArgs s_BadName___init, defBody s_BadName___init, defScope s_BadName___init, fun K => []⟩, ⟨fun K => (He.ma K (He.ga K "NameTaken") "__init__"), "__init__", "NameTaken.__init__", defArgs s_NameTaken___init, defBody s_NameTaken___init, defScope s_NameTaken___init, fun K => []⟩, ⟨fun K => (He.ma K (He.ga K "NoPost") "__init__"), "__init__", "NoPost.__init__", defArgs s_NoPost___init, defBody s_NoPost___init, defScope s_NoPost___init, fun K => []⟩, ⟨fun K => (He.ma K (He.ga K "NoLane") "__init__"), "__init__", "NoLane.__init__", defArgs s_NoLane___init, defBody s_NoLane___init, defScope s_NoLane___init, fun K => []⟩, ⟨fun K => (He.ma K (He.ga K "NoRound") "__init__"), "__init__", "NoRound.__init__", defArgs s_NoRound___init, defBody s_NoRound___init, defScope s_NoRound___init, fun K => []⟩]
abbrev dfs : List Df := dfs0 ++ dfs1
def names0 : List Str := ["_wall", "ShowError", "BadName", "NameTaken", "NoPost", "NoLane", "Clash", "EmptyWalk", "NothingWanted", "BadText", "BadNumber", "NoRound", "OneRing", "LETTERS", "DIGITS", "LONGEST", "is_name", "is_whole", "is_count", "first_missing", "are_strings", "are_names", "Net", "made_of_both", "is_within", "shortest_way", "reached_posts", "parts_of", "Machine", "made_machine"]
def names1 : List Str := ["read_tree", "crossed", "accepts", "ENDS", "sign_at", "read_pattern", "behind_row", "read_row", "read_item", "read_name", "read_names", "read_group", "expect", "Round", "in_order", "check_lanes", "begins_at", "is_turned", "joined", "opposite", "tree_names", "text_of", "atom_text", "Pattern", "word_pattern", "as_pattern", "machine_of", "moves_of", "reversed_moves", "finished_order"]
def names2 : List Str := ["strong_lots", "inner_lanes", "Asked", "inner_ends", "part_with", "found_part", "closed_walk", "avoidable_number", "is_avoidable", "shown_walk", "showing", "only_ring", "check_many", "is_sure", "longest", "greatest", "is_inside", "ascending", "check_same", "parting_round", "further_round", "is_followed", "single_ring", "parting_stretch", "unsure_beginning", "_law_cell", "_law_pool", "_law_take", "_law_many", "_law_built"]
def names3 : List Str := ["_law_ends", "_law_ways", "_law_part", "_law_in_order", "_law_lanes", "_law_is_held", "_law_held_part", "_law_is_round", "_law_loose_net", "_law_told", "_law_pair", "_law_right_side", "_law_right_round"]
abbrev names : List Str := names0 ++ names1 ++ names2 ++ names3
abbrev R : PySem.W.OpenRow := PySem.W.OpenLaw.row PySem.Challenge.rw_alsoshown_k66_comparing_refused
abbrev qv : Program := view R.prog [116]
def rts0 : List Str := ["is_name", "is_whole", "first_missing", "check_lanes", "Net", "Round", "_law_cell", "_law_pool", "_law_take", "_law_many", "_law_built", "_law_ends", "_law_ways", "shortest_way", "reached_posts", "parts_of", "part_with", "found_part", "inner_ends", "closed_walk", "Asked", "check_same", "parting_round", "single_ring", "parting_stretch", "_law_part", "_law_in_order", "_law_lanes", "_law_is_held", "_law_held_part"]
def rts1 : List Str := ["_law_is_round", "_law_loose_net", "_law_told", "_law_pair", "_law_right_side", "_law_right_round", "law", "BadName", "NameTaken", "NoPost", "NoLane", "NoRound", "LETTERS", "LONGEST", "DIGITS", "EmptyWalk", "NothingWanted"]
abbrev rts : List Str := rts0 ++ rts1
abbrev hk : PySem.W.Hook := hookZ 5 rts exs dfs
def ob (s : PySem.W.SharedT) : AlY := obsZG 5 rts exs dfs (HandSHeadRun.getT s)
theorem ob_eq (s : PySem.W.SharedT) : ob s = hk.obs s.abs := obsZG_eq (HandSHeadRun.getT_eq s)
theorem run0 (w : World) : HandSHeadRun.RunEq R qv hk ob 14000 names (w.withFollow "special-get-raises" false) := by
  intro os
  kernel_rfl
theorem run1 (w : World) : HandSHeadRun.RunEq R qv hk ob 14000 names (w.withFollow "special-get-raises" true) := by
  intro os
  kernel_rfl
theorem run (w : World) : HandSHeadRun.RunEq R qv hk ob 14000 names w := PySem.W.byRow2 "special-get-raises" (P := fun w => HandSHeadRun.RunEq R qv hk ob 14000 names w) run0 run1 w
end K66

/-! DL1: contracts by number of arguments, bundles for the printed derivations (own work). -/
namespace DL
open PySem L2 PySem.W
abbrev Oc := Out → Cells → Prop
def Ct1 (R : W → Cells → Oc → Prop) : Ct := fun ws ka out => ∃ a, ws = [a] ∧ R a ka out
def Ct2 (R : W → W → Cells → Oc → Prop) : Ct := fun ws ka out => ∃ a b, ws = [a, b] ∧ R a b ka out
def Ct3 (R : W → W → W → Cells → Oc → Prop) : Ct := fun ws ka out => ∃ a b c, ws = [a, b, c] ∧ R a b c ka out
def Ct4 (R : W → W → W → W → Cells → Oc → Prop) : Ct := fun ws ka out => ∃ a b c d, ws = [a, b, c, d] ∧ R a b c d ka out
theorem ct1_len {R} : ∀ ws ka out, Ct1 R ws ka out → ws.length = 1 := fun _ _ _ ⟨_, h, _⟩ => by rw [h]; rfl
theorem ct2_len {R} : ∀ ws ka out, Ct2 R ws ka out → ws.length = 2 := fun _ _ _ ⟨_, _, h, _⟩ => by rw [h]; rfl
theorem ct3_len {R} : ∀ ws ka out, Ct3 R ws ka out → ws.length = 3 := fun _ _ _ ⟨_, _, _, h, _⟩ => by rw [h]; rfl
theorem ct4_len {R} : ∀ ws ka out, Ct4 R ws ka out → ws.length = 4 := fun _ _ _ ⟨_, _, _, _, h, _⟩ => by rw [h]; rfl
/-- how a call ends: it comes back with d, the cells k; it raises -/
def Rt (d : D) (k : Cells) : Oc := fun o k' => o = .ret d ∧ k' = k
def Xt (C : Addr) (fs : List (Str × D)) (k : Cells) : Oc := fun o k' => o = .exc C fs ∧ k' = k
def X0 (C : Addr) (k : Cells) : Oc := fun o k' => o = .exc0 C ∧ k' = k
def Nt (n : Nd) (k : Cells) : Oc := fun o k' => ∃ a, o = .ret (.adr a) ∧ k' = k ++ [(a, n)]
section
variable {X : Cx} {k : Nat} {f C : Addr} {ps : List Str} {E : XK} {Ct' : Ct} {x m : Str} {p pos apos : Pos} {e o : Expr} {es : List Expr} {ta te to ti : TE} {t : TA}
/-- an own error with one field -/
structure Xn (P : Program) (w : World) (K : PySem.W.Frag) (mg : Str → Option Value) (base : Heap) (C : Addr) (fld : Str) : Prop where
  xc : Xc K C
  no : findIn K (.ref C) fld = some none
  ex : ∃ fI fd x, findIn K (.ref C) "__init__" = some (some (.ref fI)) ∧ typeIn K (.ref fI) = some (.type "function") ∧ FnOk P w K mg base (L2.CX P w) 1 fI fd ["self", x] (spI1 K C fld) ∧ Binds K fd ["self", x] []
namespace Xn
variable {P : Program} {w : World} {K : PySem.W.Frag} {mg : Str → Option Value} {base : Heap} {C : Addr} {fld : Str}
noncomputable def fI (Z : Xn P w K mg base C fld) : Addr := Classical.choose Z.ex
noncomputable def fd (Z : Xn P w K mg base C fld) : FuncData := Classical.choose (Classical.choose_spec Z.ex)
noncomputable def px (Z : Xn P w K mg base C fld) : Str := Classical.choose (Classical.choose_spec (Classical.choose_spec Z.ex))
theorem all (Z : Xn P w K mg base C fld) : findIn K (.ref C) "__init__" = some (some (.ref Z.fI)) ∧ typeIn K (.ref Z.fI) = some (.type "function") ∧ FnOk P w K mg base (L2.CX P w) 1 Z.fI Z.fd ["self", Z.px] (spI1 K C fld) ∧ Binds K Z.fd ["self", Z.px] [] :=
  Classical.choose_spec (Classical.choose_spec (Classical.choose_spec Z.ex))
end Xn
end
end DL
namespace DL
open PySem L2 PySem.W
/-- a constant of the module -/
theorem pe_gv {X : Cx} {x : Str} {pos : Pos} {v : V} (hg : Gl X x) (h : ∃ u, X.mg x = some u ∧ RelV v u) (hd : (x == ("__debug__" : Str)) = false := by decide) : PE X (.Name x pos) (tC v) := let ⟨_, hm, r⟩ := h; pe_glob hg hm r hd
/-- what BlkOk asks, as one thing to be decided -/
def blkB (N : List Str) (sc scope : Scope) (own : List (Str × Nat)) : Bool :=
  decide (scope.kind = .function ∧ (∀ p ∈ own, N[p.2]? = some p.1) ∧ ∀ y ∈ scope.names, scope.names.lookup y.1 = some y.2 ∧ (y.2 = .free → sc.names.lookup y.1 = some .cell ∨ sc.names.lookup y.1 = some .free) ∧ (y.2 = .local ∨ y.2 = .cell → y.1 ∈ own.map (·.1) ∨ y.1 ∉ N))
theorem blk_ok {N : List Str} {sc scope : Scope} {own : List (Str × Nat)} (N' : List Str) (sc' : Scope) (eN : N = N') (eS : sc = sc') (h : blkB N' sc' scope own = true) : BlkOk N sc scope own :=
  let ⟨fn, at_, each⟩ := of_decide_eq_true h
  eN ▸ eS ▸ { kind := fn, uniq := fun y m => (each y m).1, ix := at_, free := fun y m => (each y m).2.1, own := fun y m => (each y m).2.2 }
end DL

/-! DM: shorter words (own work). -/
namespace DL
open PySem L2 PySem.W
section
variable {K : PySem.W.Frag} {B F F0 : Hp} {ro : Ro} {ka k1 k2 k3 kr : Cells} {ta : List (V × W)} {sg : L2.St} {H H' : Hp} {te tf tg : TE} {tr : TA} {tt tu : TT} {w x y z : W} {n m : Nd} {C dx a : Addr} {fs : List (Str × D)} {b : Bool} {P : L2.St → Hp → Prop} {De : Ends} {t u : TS} {E : XK}
theorem ea1 (h : EvD K te ro ka x k1) : EvA K (tCons te tNil) ro ka [x] k1 := ea_cons h ea_nil
theorem ea2 (h : EvD K te ro ka x k1) (h2 : EvD K tf ro k1 y k2) : EvA K (tCons te (tCons tf tNil)) ro ka [x, y] k2 := ea_cons h (ea1 h2)
theorem ea3 (h : EvD K te ro ka x k1) (h2 : EvD K tf ro k1 y k2) (h3 : EvD K tg ro k2 z k3) : EvA K (tCons te (tCons tf (tCons tg tNil))) ro ka [x, y, z] k3 := ea_cons h (ea2 h2 h3)
theorem EvA.to {ws ws' : List W} (h : EvA K tr ro ka ws k1) (e : ws = ws') : EvA K tr ro ka ws' k1 := e ▸ h
/-- the built-in type of data -/
def tyD : D → Option String
  | .non => some "NoneType" | .bl _ => some "bool" | .int _ => some "int" | .str _ => some "str" | .lst _ => some "list" | .tup _ => some "tuple"
  | _ => none
theorem tw_of {d : D} {T : String} (h : tyD d = some T) : Tw K ka (.val d) (.type T) := by
  cases d <;> cases h
  · exact .non
  · exact .bl
  · exact .int
  · exact .str
  · exact .tup .vt
  · exact .lst .vl
theorem ev_isi {T : String} {t : Value} (h : EvD K te ro ka w k1) (l : Tw K k1 w t) (e : kitOne K t (.type T) = some b) : EvD K (tCB (rIsi K) (tCons te (tCons (tC (.ty T)) tNil))) ro ka (.val (.bl b)) k1 := ev_cb (ea2 h ev_ty) (rc_isi l e)
theorem ev_len {t b : Bool} {ds : List D} (h : EvD K te ro ka w k1) (l : Lk k1 w t ds b) : EvD K (tCB (rLenU K) (tCons te tNil)) ro ka (.val (.int ds.length)) k1 := ev_cb (ea1 h) (rc_len l)
theorem ev_lenS {s : Str} (h : EvD K te ro ka (.val (.str s)) k1) (hs : s.length ≤ 100000) : EvD K (tCB (rLenU K) (tCons te tNil)) ro ka (.val (.int s.length)) k1 := ev_cb (ea1 h) (rc_lenS hs)
theorem ev_eq {d e : D} (h : EvD K te ro ka x k1) (h2 : EvD K tf ro k1 y k2) (l1 : Pk k2 x d) (l2 : Pk k2 y e) (p1 : pl 61 d = true) (p2 : pl 61 e = true) : EvD K (tOp (rEqP K false) te tf) ro ka (.val (.bl (eqD d e))) k2 := ev_op h h2 (rv_eqP l1 l2 p1 p2)
theorem ev_ne {d e : D} (h : EvD K te ro ka x k1) (h2 : EvD K tf ro k1 y k2) (l1 : Pk k2 x d) (l2 : Pk k2 y e) (p1 : pl 61 d = true) (p2 : pl 61 e = true) : EvD K (tOp (rEqP K true) te tf) ro ka (.val (.bl (!eqD d e))) k2 := ev_op h h2 (rv_neP l1 l2 p1 p2)
theorem ev_eqI {i j : Int} (h : EvD K te ro ka (.val (.int i)) k1) (h2 : EvD K tf ro k1 (.val (.int j)) k2) : EvD K (tOp (rEqP K false) te tf) ro ka (.val (.bl (i == j))) k2 := ev_eq h h2 .v .v rfl rfl
theorem ev_neI {i j : Int} (h : EvD K te ro ka (.val (.int i)) k1) (h2 : EvD K tf ro k1 (.val (.int j)) k2) : EvD K (tOp (rEqP K true) te tf) ro ka (.val (.bl (!(i == j)))) k2 := ev_ne h h2 .v .v rfl rfl
theorem ev_eqS {i j : Str} (h : EvD K te ro ka (.val (.str i)) k1) (h2 : EvD K tf ro k1 (.val (.str j)) k2) : EvD K (tOp (rEqP K false) te tf) ro ka (.val (.bl (i == j))) k2 := ev_eq h h2 .v .v rfl rfl
theorem ev_neS {i j : Str} (h : EvD K te ro ka (.val (.str i)) k1) (h2 : EvD K tf ro k1 (.val (.str j)) k2) : EvD K (tOp (rEqP K true) te tf) ro ka (.val (.bl (!(i == j)))) k2 := ev_ne h h2 .v .v rfl rfl
theorem ev_addI {i j : Int} (h : EvD K te ro ka (.val (.int i)) k1) (h2 : EvD K tf ro k1 (.val (.int j)) k2) : EvD K (tOp (rAddU K) te tf) ro ka (.val (.int (i + j))) k2 := ev_op h h2 rv_addI
theorem ev_subI {i j : Int} (h : EvD K te ro ka (.val (.int i)) k1) (h2 : EvD K tf ro k1 (.val (.int j)) k2) : EvD K (tOp rSubI te tf) ro ka (.val (.int (i - j))) k2 := ev_op h h2 rv_sub
theorem ev_mulI {i j : Int} (h : EvD K te ro ka (.val (.int i)) k1) (h2 : EvD K tf ro k1 (.val (.int j)) k2) (c : IntMulOk i j) : EvD K (tOp rMulU te tf) ro ka (.val (.int (i * j))) k2 := ev_op h h2 (rvd_l (rv_I c fun _ => rfl))
theorem ev_mulL {i j : Int} (h : EvD K te ro ka (.val (.int i)) k1) (h2 : EvD K tf ro k1 (.val (.int j)) k2) (c : Builtin.Int.intBits i ≤ 64 := by decide) : EvD K (tOp rMulU te tf) ro ka (.val (.int (i * j))) k2 := ev_mulI h h2 (.of_left c)
theorem ev_mulR {i j : Int} (h : EvD K te ro ka (.val (.int i)) k1) (h2 : EvD K tf ro k1 (.val (.int j)) k2) (c : Builtin.Int.intBits j ≤ 64 := by decide) : EvD K (tOp rMulU te tf) ro ka (.val (.int (i * j))) k2 := ev_mulI h h2 (.of_right c)
theorem ev_modI {i j : Int} (h : EvD K te ro ka (.val (.int i)) k1) (h2 : EvD K tf ro k1 (.val (.int j)) k2) (c : 0 < j) : EvD K (tOp rModI te tf) ro ka (.val (.int (i % j))) k2 := ev_op h h2 (rv_mod c)
theorem ev_divI {i j : Int} (h : EvD K te ro ka (.val (.int i)) k1) (h2 : EvD K tf ro k1 (.val (.int j)) k2) (c : CDiv i j) : EvD K (tOp rDivI te tf) ro ka (.val (.int (i / j))) k2 := ev_op h h2 (rv_div c)
theorem ev_powI {i j : Int} (h : EvD K te ro ka (.val (.int i)) k1) (h2 : EvD K tf ro k1 (.val (.int j)) k2) (c : CPow i j) : EvD K (tOp rPowI te tf) ro ka (.val (.int (i ^ j.toNat))) k2 := ev_op h h2 (rv_pow c)
theorem ev_lt {i j : Int} (h : EvD K te ro ka (.val (.int i)) k1) (h2 : EvD K tf ro k1 (.val (.int j)) k2) : EvD K (tOp rLtI te tf) ro ka (.val (.bl (decide (i < j)))) k2 := ev_op h h2 rv_lt
theorem ev_gt {i j : Int} (h : EvD K te ro ka (.val (.int i)) k1) (h2 : EvD K tf ro k1 (.val (.int j)) k2) : EvD K (tOp rGtI te tf) ro ka (.val (.bl (decide (j < i)))) k2 := ev_op h h2 rv_gt
theorem ev_ge {i j : Int} (h : EvD K te ro ka (.val (.int i)) k1) (h2 : EvD K tf ro k1 (.val (.int j)) k2) : EvD K (tOp rGeI te tf) ro ka (.val (.bl (decide (j ≤ i)))) k2 := ev_op h h2 rv_ge
theorem ev_int1 {i : Int} (h : EvD K te ro ka (.val (.int i)) k1) : EvD K (tCB rIntU (tCons te tNil)) ro ka (.val (.int i)) k1 := ev_cb (ea1 h) rc_int
theorem ev_addS {i j : Str} (h : EvD K te ro ka (.val (.str i)) k1) (h2 : EvD K tf ro k1 (.val (.str j)) k2) (hz : i.length + j.length ≤ 100000) : EvD K (tOp (rAddU K) te tf) ro ka (.val (.str (i ++ j))) k2 := ev_op h h2 (rv_addS hz)
theorem ev_ix {t b : Bool} {ds : List D} {i : Int} {d : D} (h : EvD K te ro ka w k1) (h2 : EvD K tf ro k1 (.val (.int i)) k2) (l : Lk k2 w t ds b) (hd : atI ds i = some d) : EvD K (tOp (rIx K) te tf) ro ka (part b d) k2 := ev_op h h2 (rv_ix l hd)
theorem ev_ixV {t : Bool} {ds : List D} {i : Int} {d : D} (h : EvD K te ro ka w k1) (h2 : EvD K tf ro k1 (.val (.int i)) k2) (l : Lk k2 w t ds false) (hd : atI ds i = some d) : EvD K (tOp (rIx K) te tf) ro ka (.val d) k2 := ev_ix h h2 l hd
theorem ev_ixS {s : Str} {i : Int} {c : Nat} (h : EvD K te ro ka (.val (.str s)) k1) (h2 : EvD K tf ro k1 (.val (.int i)) k2) (hs : s.length ≤ 100000) (hc : atI s.cps.toList i = some c) : EvD K (tOp (rIx K) te tf) ro ka (.val (.str ⟨#[c]⟩)) k2 := ev_op h h2 (rv_ixS hs hc)
theorem ev_inS {c : Nat} {s : Str} (h : EvD K te ro ka (.val (.str ⟨#[c]⟩)) k1) (h2 : EvD K tf ro k1 (.val (.str s)) k2) : EvD K (tOp (rInU K) te tf) ro ka (.val (.bl (decide (c ∈ s.cps.toList)))) k2 := ev_op h h2 (rvd_l rv_inS)
theorem rv_niS {c : Nat} {s : Str} : RvD K rNotInS ka (.val (.str ⟨#[c]⟩)) (.val (.str s)) (.val (.bl (!decide (c ∈ s.cps.toList)))) := fun B F0 ro ta sg H u v Q e h1 h2 q =>
  ⟨c, s, e.tm_str h1, e.tm_str h2, q _ _ (e.push_imm fun _ => rfl)⟩
theorem ev_niS {c : Nat} {s : Str} (h : EvD K te ro ka (.val (.str ⟨#[c]⟩)) k1) (h2 : EvD K tf ro k1 (.val (.str s)) k2) : EvD K (tOp (rNiU K) te tf) ro ka (.val (.bl (!decide (c ∈ s.cps.toList)))) k2 := ev_op h h2 (rvd_l rv_niS)
/-! ### calls -/
/-- a contract that works on no cells -/
theorem ev_callP {Cc : Ct} {ws : List W} {d : D} (ha : EvA K tr ro ka ws k1) (hC : Cc ws [] (Rt d [])) : EvD K (tCall (spC K Cc) [] E tr) ro ka (.val d) k1 := ev_callF (k1 := []) (k2 := []) k1 ha hC fun _ _ h => h
/-- .. on all -/
theorem ev_callA {Cc : Ct} {ws : List W} {d : D} (ha : EvA K tr ro ka ws k1) (hC : Cc ws k1 (Rt d k2)) : EvD K (tCall (spC K Cc) [] E tr) ro ka (.val d) k2 := ev_call ha hC fun _ _ h => h
/-- .. on the first cell -/
theorem ev_call1 {Cc : Ct} {ws : List W} {d : D} (ha : EvA K tr ro ka ws ((a, n) :: kr)) (hC : Cc ws [(a, n)] (Rt d [(a, m)])) : EvD K (tCall (spC K Cc) [] E tr) ro ka (.val d) ((a, m) :: kr) := ev_callF (k1 := [(a, n)]) (k2 := [(a, m)]) kr ha hC fun _ _ h => h
theorem evn_callP {Cc : Ct} {ws : List W} (ha : EvA K tr ro ka ws k1) (hC : Cc ws [] (Nt m [])) : EvN K (tCall (spC K Cc) [] E tr) ro ka m k1 := evn_call (k1 := []) (k2 := []) k1 ha hC fun _ _ h => h
/-- the call's end is told by a word: any data, any cells -/
theorem sp_rel {Cc : Ct} {ws : List W} {out : Oc} {vs : List V} {Q : VK} (e : En K B F0 ro (ka ++ kr) (vs.zip ws ++ ta) sg H) (hl : vs.length = ws.length) (hC : Cc ws ka out) (ho : ∀ o k, out o k → ∃ d, o = .ret d)
    (q : ∀ d k2 v H', out (.ret d) k2 → En K B F0 ro (k2 ++ kr) ((v, .val d) :: ta) sg H' → Q v H') : spC K Cc vs H Q E := by
  obtain ⟨F, g, e⟩ := e
  refine ⟨off H ka, F, ws, ka, out, hC, hl, ⟨F, Gr.refl _ _, e.into (ro' := []) (sg' := []) (ta' := vs.zip ws) rfl (fun i w h => by simp at h) fun p hp => List.mem_append_left _ hp⟩, fun d' k v H' o ⟨F', g', e'⟩ => ?_, fun C fs k dx H' o _ => ?_, fun C k H' o _ => ?_⟩
  · obtain ⟨g2, e2⟩ := e.back g' e' (tb := (v, .val d') :: ta) fun p hp => by
      rcases List.mem_cons.mp hp with rfl | hp
      · exact .inr ⟨d', rfl, List.mem_cons_self⟩
      · exact .inl (List.mem_append_right _ hp)
    exact q d' k v H' o ⟨F', g.trans g2, e2⟩
  · obtain ⟨_, z⟩ := ho _ _ o
    cases z
  · obtain ⟨_, z⟩ := ho _ _ o
    cases z
theorem g_call {Cc : Ct} {ws : List W} {out : Oc} {i : Nat} (kr : Cells) (ha : EvA K tr ro ka ws (k1 ++ kr)) (hC : Cc ws k1 out) (ho : ∀ o k, out o k → ∃ d, o = .ret d) (k : ∀ d k2, out (.ret d) k2 → Gp K B F0 ta De.nx (ro.set i (some (.val d))) (k2 ++ kr)) :
    Gp K B F0 ta (tAsg (tCall (spC K Cc) [] E tr) (gName i) De) ro ka := fun sg H e => ha B F0 ta sg H _ e fun vs H1 hl e1 => by
  rw [List.append_nil]
  exact sp_rel e1 hl hC ho fun d k2 v H' o e2 => k d k2 o _ _ (e2.set i)
theorem q_call {Cc : Ct} {ws : List W} {out : Oc} {i : Nat} (kr : Cells) (ha : EvA K tr ro ka ws (k1 ++ kr)) (hC : Cc ws k1 out) (ho : ∀ o k, out o k → ∃ d, o = .ret d) (k : ∀ d k2, out (.ret d) k2 → Gp K B F0 ta (u De) (ro.set i (some (.val d))) (k2 ++ kr)) :
    Gp K B F0 ta (tSeq (tAsg (tCall (spC K Cc) [] E tr) (gName i)) u De) ro ka := g_call (De := { De with nx := u De }) kr ha hC ho k
/-! ### returns -/
/-- a new cell is handed back as data -/
theorem g_retL {out : Oc} {ds : List D} (hr : RtOk K B F0 out De.rt) (h : EvN K te ro ka (.lst ds) k1) (o : out (.ret (.lst ds)) k1) : Gp K B F0 ta (tRet te De) ro ka := g_ret hr h.lst o
/-- .. as a cell -/
theorem g_retC {out : Oc} (hr : RtOk K B F0 out De.rt) (h : EvN K te ro ka n k1) (o : ∀ a, out (.ret (.adr a)) (k1 ++ [(a, n)])) : Gp K B F0 ta (tRet te De) ro ka := fun sg H e => h B F0 ta sg H _ e fun a H1 e1 =>
  hr (.adr a) _ (.ref a) H1 (o a) ((e1.push_imm (v := .ref a) (w := .val (.adr a)) fun _ => rfl).leave)
/-- .. of which a word tells -/
theorem g_retR {out : Oc} {R : Nd → Cells → Prop} (hr : RtOk K B F0 out De.rt) (h : EvNR K te ro ka R) (o : ∀ n k, R n k → ∃ ds, n = .lst ds ∧ out (.ret (.lst ds)) k) : Gp K B F0 ta (tRet te De) ro ka := fun sg H e => h B F0 ta sg H _ e fun n k a H1 r e1 => by
  obtain ⟨ds, rfl, o⟩ := o n k r
  exact hr (.lst ds) k (.ref a) H1 o e1.freeze_l.leave
theorem g_asgNR {R : Nd → Cells → Prop} {i : Nat} (h : EvNR K te ro ka R) (k : ∀ n k1 a, R n k1 → Gp K B F0 ta De.nx (ro.set i (some (.val (.adr a)))) (k1 ++ [(a, n)])) : Gp K B F0 ta (tAsg te (gName i) De) ro ka := fun sg H e => h B F0 ta sg H _ e fun n k1 a H1 r e1 => k n k1 a r _ _ (e1.setA i a)
theorem q_asgNR {R : Nd → Cells → Prop} {i : Nat} (h : EvNR K te ro ka R) (k : ∀ n k1 a, R n k1 → Gp K B F0 ta (u De) (ro.set i (some (.val (.adr a)))) (k1 ++ [(a, n)])) : Gp K B F0 ta (tSeq (tAsg te (gName i)) u De) ro ka := g_asgNR (De := { De with nx := u De }) h k
theorem Gp.perm (h : Gp K B F0 ta P ro k1) (s : k1.Perm ka) : Gp K B F0 ta P ro ka := fun sg H e => h sg H (e.perm s)
end
end DL

/-! DN: comprehensions that map and choose; names, numbers (own work). -/
namespace DL
open PySem L2 PySem.W
section
variable {K : PySem.W.Frag} {ro : Ro} {ka k1 : Cells} {te : TE} {tt : TT} {wi : TI} {C : Cells → Prop} {j : Nat} {vs : List Nat} {α : Type}
theorem et_yes : EvT K tYes ro ka true ka := fun B F0 ta sg H Q e q => q H e
theorem take_succ_some {xs : List α} {i : Nat} {x : α} (h : xs[i]? = some x) : xs.take (i + 1) = xs.take i ++ [x] := by
  rw [List.take_succ, h]
  rfl
theorem evn_filt {xs : List α} {g : α → W} {f : α → D} {p : α → Bool} (h : EvI K wi ro ka (xs.map g) C k1) (hj : j ∈ vs) (hn : xs.length ≤ 1000000) (hC : C k1 ∧ ∀ x, C (k1 ++ [x]))
    (ht : ∀ x ∈ xs, EvT K tt ((wipeR ro vs).set j (some (g x))) k1 (p x) k1) (hs : ∀ x ∈ xs, p x = true → EvD K te ((wipeR ro vs).set j (some (g x))) k1 (.val (f x)) k1) : EvN K (tLc wi (gName j) tt te vs) ro ka (.lst ((xs.filter p).map f)) k1 := by
  refine evn_lc h hj (by rw [List.length_map]; exact hn) (fun i acc k => acc = ((xs.take i).filter p).map f ∧ k = k1) ⟨rfl, rfl⟩ (fun i acc k ⟨_, e⟩ => by subst e; exact hC) (fun i w acc k hw ⟨e1, e2⟩ => ?_) (fun acc k ⟨e1, e2⟩ => ⟨?_, e2⟩)
  · subst e1 e2
    rw [List.getElem?_map] at hw
    cases hx : xs[i]? with
    | none => rw [hx] at hw; cases hw
    | some x =>
      rw [hx] at hw
      cases hw
      have hm : x ∈ xs := List.mem_of_getElem? hx
      cases hp : p x with
      | false =>
        refine .inl ⟨k, hp ▸ ht x hm, ?_, rfl⟩
        rw [take_succ_some hx, List.filter_append]
        simp [hp]
      | true =>
        refine .inr ⟨k, k, f x, hp ▸ ht x hm, hs x hm hp, ?_, rfl⟩
        rw [take_succ_some hx, List.filter_append]
        simp [hp]
  · rw [e1, List.length_map, List.take_length]
theorem evn_map {xs : List α} {g : α → W} {f : α → D} (h : EvI K wi ro ka (xs.map g) C k1) (hj : j ∈ vs) (hn : xs.length ≤ 1000000) (hC : C k1 ∧ ∀ x, C (k1 ++ [x]))
    (hs : ∀ x ∈ xs, EvD K te ((wipeR ro vs).set j (some (g x))) k1 (.val (f x)) k1) : EvN K (tLc wi (gName j) tYes te vs) ro ka (.lst (xs.map f)) k1 := by
  have := evn_filt (tt := tYes) (p := fun _ => true) h hj hn hC (fun _ _ => et_yes) (fun x hx _ => hs x hx)
  have e : xs.filter (fun _ => true) = xs := List.filter_eq_self.mpr fun _ _ => rfl
  rwa [e] at this
end
/-! ### texts -/
theorem str_len (s : Str) : s.length = s.cps.toList.length := by
  show s.cps.size = _
  simp
theorem str_ext {s t : Str} (h : s.cps.toList = t.cps.toList) : s = t := by
  cases s with
  | mk a =>
    cases t with
    | mk b =>
      have : a = b := by
        have h2 : a.toList = b.toList := h
        exact Array.toList_inj.mp h2
      rw [this]
theorem str_nil {s : Str} (h : s.cps.toList = []) : s = ("" : Str) := str_ext h
def letL : List Nat := ("abcdefghijklmnopqrstuvwxyz" : Str).cps.toList
def digL : List Nat := ("0123456789" : Str).cps.toList
/-- is a text a name: its signs -/
def nmL : List Nat → Bool
  | [] => false
  | c :: r => decide ((c :: r).length ≤ 8) && (decide (c ∈ letL) && (c :: r).all fun x => decide (x ∈ letL) || decide (x ∈ digL))
def isNm (s : Str) : Bool := nmL s.cps.toList
theorem isNm_len {s : Str} (h : isNm s = true) : s.length ≤ 8 := by
  unfold isNm at h
  rw [str_len]
  cases hc : s.cps.toList with
  | nil => simp
  | cons c r =>
    rw [hc] at h
    unfold nmL at h
    rw [Bool.and_eq_true] at h
    exact of_decide_eq_true h.1
/-- .. data -/
def isNmD : D → Bool
  | .str s => isNm s
  | _ => false
/-- data that a name's test may be asked of -/
def nmOk : D → Prop
  | .str s => s.length ≤ 1000
  | d => tyD d ≠ none
/-- is it a whole number -/
def isWh : D → Bool
  | .int _ => true
  | _ => false
theorem at0 {β : Type} {c : β} {r : List β} : atI (c :: r) 0 = some c := atI_nat (j := 0) rfl
theorem atZ {β : Type} {xs : List β} {i : Int} {x : β} (h0 : 0 ≤ i) (h : xs[i.toNat]? = some x) : atI xs i = some x := by
  have := atI_nat h
  rwa [Int.toNat_of_nonneg h0] at this
/-! ### cuts -/
theorem six_nat {n : Nat} {i : Int} (h0 : 0 ≤ i) (h1 : i ≤ n) (d : Nat) : HT.sIx n d (some i) = i.toNat := by
  unfold HT.sIx
  simp only
  first
    | omega
    | (split <;> omega)
    | (repeat' split) <;> omega
theorem six_none {n d : Nat} : HT.sIx n d none = d := rfl
theorem cut_from {β : Type} {xs : List β} {i : Int} (h0 : 0 ≤ i) (h1 : i ≤ xs.length) : cutD xs (some i) none = xs.drop i.toNat := by
  unfold cutD
  rw [six_nat h0 h1, six_none]
  exact List.take_of_length_le (by rw [List.length_drop]; exact Nat.le_refl _)
theorem cut_to {β : Type} {xs : List β} {i : Int} (h0 : 0 ≤ i) (h1 : i ≤ xs.length) : cutD xs none (some i) = xs.take i.toNat := by
  unfold cutD
  rw [six_nat h0 h1, six_none, List.drop_zero, Nat.sub_zero]
theorem cut_len {β : Type} (xs : List β) (lo hi : Option Int) : (cutD xs lo hi).length ≤ xs.length := by
  unfold cutD
  rw [List.length_take, List.length_drop]
  omega
/-! ### texts in lists -/
theorem eqD_str {a b : Str} : eqD (.str a) (.str b) = (a == b) := rfl
def stD (ss : List Str) : List D := ss.map .str
theorem stD_len (ss : List Str) : (stD ss).length = ss.length := List.length_map ..
theorem pl_stD (ss : List Str) (n : Nat) : (stD ss).all (pl n) = true := List.all_eq_true.mpr fun d hd => by
  obtain ⟨s, _, rfl⟩ := List.mem_map.mp hd
  cases n <;> rfl
theorem eqL_stD : ∀ xs ys : List Str, eqL (stD xs) (stD ys) = decide (xs = ys)
  | [], [] => rfl
  | [], _ :: _ => rfl
  | _ :: _, [] => rfl
  | x :: xs, y :: ys => by
    have ih := eqL_stD xs ys
    show (eqD (.str x) (.str y) && eqL (stD xs) (stD ys)) = _
    rw [ih, eqD_str]
    by_cases h1 : x = y
    · subst h1
      by_cases h2 : xs = ys
      · subst h2; simp
      · simp [h2]
    · simp [h1]
theorem lk1 {β : Type} {f : Str} {v : β} : List.lookup f [(f, v)] = some v := by simp [List.lookup]
theorem part_of {b : Bool} {ds : List D} (h : SqF b ds) {d : D} (hd : d ∈ ds) : part b d = .val d := by
  rcases h with h | h
  · subst h; rfl
  · have := List.all_eq_true.mp h d hd
    unfold part
    rw [this]
    simp
section
variable {K : PySem.W.Frag} {ka kr : Cells} {w : W} {t b : Bool} {ds : List D}
theorem Lk.stay (l : Lk ka w t ds b) : Stay w ds ka := by
  cases l with
  | vl => trivial
  | vt => trivial
  | wl => trivial
  | wt => trivial
  | ce j h => exact List.mem_of_getElem? h
theorem Lk.app (l : Lk ka w t ds b) : Lk (ka ++ kr) w t ds b := l.mono _ (by
  have := l.stay
  unfold Stay at this ⊢
  split
  · rename_i a
    exact List.mem_append_left _ this
  · trivial)
theorem rc_tup (l : Lk ka w t ds b) (ht : t = true → b = false) (hf : SqF b ds) : RcD K (rTupU K) ka [w] (.val (.tup ds)) := by
  cases t with
  | false => exact rc_tupL l hf
  | true =>
    have := ht rfl
    subst this
    cases l with
    | vt => exact rc_tupT
end
theorem set_last {β : Type} (k : List β) (x y : β) : (k ++ [x]).set k.length y = k ++ [y] := by
  rw [List.set_append_right _ _ (Nat.le_refl _)]
  simp
theorem get_last {β : Type} (k : List β) (x : β) : (k ++ [x])[k.length]? = some x := by simp
theorem find_first {β : Type} {p : β → Bool} {ds : List β} {i : Nat} {d : β} (h : ∀ e ∈ ds.take i, p e = false) (hi : ds[i]? = some d) (hp : p d = true) : ds.find? p = some d := by
  have e : ds = ds.take i ++ d :: ds.drop (i + 1) := by
    have hl := (List.getElem?_eq_some_iff.mp hi).1
    have h2 : ds[i] = d := (List.getElem?_eq_some_iff.mp hi).2
    rw [← h2, List.getElem_cons_drop, List.take_append_drop]
  rw [e, List.find?_append, List.find?_eq_none.mpr (fun x hx => by rw [h x hx]; exact Bool.false_ne_true)]
  simp [hp]
theorem find_none {β : Type} {p : β → Bool} {ds : List β} (h : ∀ e ∈ ds, p e = false) : ds.find? p = none := List.find?_eq_none.mpr fun x hx => by rw [h x hx]; exact Bool.false_ne_true
end DL
namespace DL
open PySem L2 PySem.W
section
variable {K : PySem.W.Frag} {B F0 : Hp} {ro : Ro} {ka k1 k2 : Cells} {ta : List (V × W)} {tt : TT} {De : Ends} {t u : TS}
/-- an if whose ends meet again under a word -/
theorem q_whenI {b : Bool} (Inv : Ro → Cells → Prop) (h : EvT K tt ro ka b k1) (h1 : b = true → ∀ nx, (∀ ro2 ka2, Inv ro2 ka2 → Gp K B F0 ta nx ro2 ka2) → Gp K B F0 ta (t { De with nx := nx }) ro k1) (h2 : b = false → Inv ro k1) (k : ∀ ro2 ka2, Inv ro2 ka2 → Gp K B F0 ta (u De) ro2 ka2) : Gp K B F0 ta (tSeq (tIfS tt t tNext) u De) ro ka :=
  q_when h (fun hb => h1 hb _ k) fun hb => k _ _ (h2 hb)
end
/-! ### the pool of the laws -/
structure Pl where
  a : Int
  b : Int
  c : Int
def Pl.ds (p : Pl) : List D := [.int p.a, .int p.b, .int p.c]
structure Pl.Ok (p : Pl) (n : Int) : Prop where
  a0 : 0 ≤ p.a
  b0 : 0 ≤ p.b
  b1 : p.b < 1000000007
  c0 : 0 ≤ p.c
  c1 : p.c ≤ n
theorem Pl.Ok.up {p : Pl} {m n : Int} (h : p.Ok m) (l : m ≤ n) : p.Ok n := ⟨h.a0, h.b0, h.b1, h.c0, Int.le_trans h.c1 l⟩
def fldZ (z : Int) : Int := if z < 0 then 0 - 2 * z - 1 else 2 * z
def plOf (z : Int) : Pl := if fldZ z ≥ 10 ^ 18 then ⟨fldZ z, fldZ z % 1000000007, 0⟩ else ⟨0, fldZ z % 1000000007, 0⟩
theorem fldZ_nn (z : Int) : 0 ≤ fldZ z := by
  unfold fldZ
  split <;> omega
theorem plOf_ok (z : Int) : (plOf z).Ok 0 := by
  have h := fldZ_nn z
  have h0 : 0 ≤ fldZ z % 1000000007 := Int.emod_nonneg _ (by decide)
  have h1 : fldZ z % 1000000007 < 1000000007 := Int.emod_lt_of_pos _ (by decide)
  unfold plOf
  split
  · exact ⟨h, h0, h1, Int.le_refl _, Int.le_refl _⟩
  · exact ⟨Int.le_refl _, h0, h1, Int.le_refl _, Int.le_refl _⟩
/-- one draw below m -/
def tk (p : Pl) (m : Int) : Int × Pl :=
  if 0 < p.a then (p.a % m, ⟨p.a / m, p.b, p.c⟩)
  else (((p.b + 7919 * (p.c + 1) + 104729) ^ (5 : Int).toNat % 2147483647 + (p.c + 1)) * 40692 % 2147483629 % m, ⟨p.a, p.b, p.c + 1⟩)
theorem tk_lt (p : Pl) {m : Int} (h : 0 < m) : 0 ≤ (tk p m).1 ∧ (tk p m).1 < m := by
  unfold tk
  split
  · exact ⟨Int.emod_nonneg _ (by omega), Int.emod_lt_of_pos _ h⟩
  · exact ⟨Int.emod_nonneg _ (by omega), Int.emod_lt_of_pos _ h⟩
theorem tk_ok {p : Pl} {n m : Int} (h : p.Ok n) (hm : 0 < m) : (tk p m).2.Ok (n + 1) := by
  obtain ⟨h1, h2, h3, h4, h5⟩ := h
  unfold tk
  split
  · exact ⟨Int.ediv_nonneg h1 (by omega), h2, h3, h4, by show p.c ≤ n + 1; omega⟩
  · exact ⟨h1, h2, h3, by show 0 ≤ p.c + 1; omega, by show p.c + 1 ≤ n + 1; omega⟩
end DL

/-! DP: texts by their signs (own work). -/
namespace DL
open PySem L2 PySem.W
/-- the text of these signs -/
def tx (l : List Nat) : Str := ⟨l.toArray⟩
theorem tx_cps (l : List Nat) : (tx l).cps.toList = l := rfl
theorem tx_len (l : List Nat) : (tx l).length = l.length := by rw [str_len, tx_cps]
theorem tx_app (l m : List Nat) : tx l ++ tx m = tx (l ++ m) := by
  refine str_ext ?_
  show ((tx l).cps ++ (tx m).cps).toList = l ++ m
  rw [Array.toList_append]
  rfl
theorem tx_cut (l : List Nat) (lo hi : Option Int) : cutS (tx l) lo hi = tx (cutD l lo hi) := by
  unfold cutS cutD
  rw [tx_cps, tx_len]
  rfl
theorem letters_tx : ("abcdefghijklmnopqrstuvwxyz" : Str) = tx letL := str_ext rfl
theorem digits_tx : ("0123456789" : Str) = tx digL := str_ext rfl
theorem let_len : letL.length = 26 := by decide
theorem sig_len : (letL ++ digL).length = 36 := by decide
theorem isNm_tx (l : List Nat) : isNm (tx l) = nmL l := by unfold isNm; rw [tx_cps]
theorem nmL_of {c : Nat} {r : List Nat} (h : c ∈ letL) (h2 : ∀ x ∈ c :: r, x ∈ letL ++ digL) (hl : (c :: r).length ≤ 8) : nmL (c :: r) = true := by
  show (decide ((c :: r).length ≤ 8) && (decide (c ∈ letL) && (c :: r).all fun x => decide (x ∈ letL) || decide (x ∈ digL))) = true
  rw [decide_eq_true hl, decide_eq_true h, Bool.true_and, Bool.true_and, List.all_eq_true]
  intro x hx
  rw [Bool.or_eq_true, decide_eq_true_eq, decide_eq_true_eq]
  exact List.mem_append.mp (h2 x hx)
/-- a name, its signs -/
theorem nm_of {l : List Nat} (h0 : ∃ c, l.head? = some c ∧ c ∈ letL) (h2 : ∀ x ∈ l, x ∈ letL ++ digL) (hl : l.length ≤ 8) : isNm (tx l) = true := by
  rw [isNm_tx]
  obtain ⟨c, hc, hm⟩ := h0
  cases l with
  | nil => cases hc
  | cons d r =>
    cases hc
    exact nmL_of hm h2 hl
/-- a drawn sign -/
theorem sgn_at {l : List Nat} {i : Int} (h0 : 0 ≤ i) (h1 : i < l.length) : ∃ c, atI l i = some c ∧ c ∈ l := by
  have hlt : i.toNat < l.length := by omega
  exact ⟨l[i.toNat], atZ h0 (List.getElem?_eq_getElem hlt), List.getElem_mem hlt⟩
section
variable {K : PySem.W.Frag} {ro : Ro} {ka k1 k2 k3 : Cells} {te tf : TE} {tl th : TO}
theorem ev_ixT {l : List Nat} {i : Int} {c : Nat} (h : EvD K te ro ka (.val (.str (tx l))) k1) (h2 : EvD K tf ro k1 (.val (.int i)) k2) (hs : l.length ≤ 1000) (hc : atI l i = some c) : EvD K (tOp (rIx K) te tf) ro ka (.val (.str (tx [c]))) k2 := ev_ixS h h2 (by rw [tx_len]; omega) (by rw [tx_cps]; exact hc)
theorem ev_addT {l m : List Nat} (h : EvD K te ro ka (.val (.str (tx l))) k1) (h2 : EvD K tf ro k1 (.val (.str (tx m))) k2) (hz : l.length + m.length ≤ 1000) : EvD K (tOp (rAddU K) te tf) ro ka (.val (.str (tx (l ++ m)))) k2 := (ev_addS h h2 (by rw [tx_len, tx_len]; omega)).to (by rw [tx_app])
theorem ev_slX {lo hi : Option Int} {l : List Nat} (ha : EvD K te ro ka (.val (.str (tx l))) k1) (h1 : EvO K tl ro k1 lo k2) (h2 : EvO K th ro k2 hi k3) (hs : l.length ≤ 1000) : EvD K (tSl (rSlU K) te tl th) ro ka (.val (.str (tx (cutD l lo hi)))) k3 := (ev_slS ha h1 h2 (by rw [tx_len]; omega)).to (by rw [tx_cut])
theorem ev_lenX {l : List Nat} (h : EvD K te ro ka (.val (.str (tx l))) k1) (hs : l.length ≤ 1000) : EvD K (tCB (rLenU K) (tCons te tNil)) ro ka (.val (.int l.length)) k1 := (ev_lenS h (by rw [tx_len]; omega)).to (by rw [tx_len])
end
end DL

/-! DR: expressions that raise, by data (own work). -/
namespace DL
open PySem L2 PySem.W
/-- te ends with an exception of C1, with the fields gs -/
def EvX (K : PySem.W.Frag) (te : TE) (ro : Ro) (ka : Cells) (E : XK) (C1 : Addr) (gs : List (Str × D)) (k2 : Cells) : Prop := ∀ B F0 ta sg H (Q : VK), En K B F0 ro ka ta sg H → (∀ dx H', En K B F0 ro (k2 ++ [(dx, .xd gs)]) ta sg H' → E (.ref C1) (some dx) H') → te sg H Q
section
variable {K : PySem.W.Frag} {B F0 : Hp} {ro : Ro} {ka k1 k2 k3 kr : Cells} {ta : List (V × W)} {sg : L2.St} {H : Hp} {te tf : TE} {tr : TA} {x y : W} {C C1 : Addr} {fs gs : List (Str × D)} {b : Bool} {E : XK} {De : Ends}
theorem evx_call {Cc : Ct} {ws : List W} {E' : XK} (ha : EvA K tr ro ka ws (k2 ++ kr)) (hC : Cc ws k2 (Xt C1 gs k3)) (hE : E' = E) : EvX K (tCall (spC K Cc) [] E' tr) ro ka E C1 gs (k3 ++ kr) := fun B F0 ta sg H Q e q => by
  subst hE
  refine ha B F0 ta sg H _ e fun vs H1 hl e1 => ?_
  rw [List.append_nil]
  refine sp_exc e1 hl hC (fun _ _ z => z) fun dx H' e3 => q dx H' (e3.perm ?_)
  rw [List.append_assoc, List.append_assoc]
  exact List.Perm.append_left _ List.perm_append_comm
end
end DL
namespace DL
open PySem L2 PySem.W
theorem cut_to' {β : Type} {xs : List β} {i : Int} (h0 : 0 ≤ i) : cutD xs none (some i) = xs.take i.toNat := by
  by_cases h1 : i ≤ xs.length
  · exact cut_to h0 h1
  · unfold cutD HT.sIx
    dsimp only
    rw [if_neg (by omega), List.drop_zero, Nat.sub_zero, Nat.min_eq_right (by omega), List.take_of_length_le (Nat.le_refl _), List.take_of_length_le (by omega)]
theorem stD_take (ss : List Str) (n : Nat) : (stD ss).take n = stD (ss.take n) := by unfold stD; rw [List.map_take]
theorem stD_app (xs ys : List Str) : stD xs ++ stD ys = stD (xs ++ ys) := by unfold stD; rw [List.map_append]
theorem stD_rep (ss : List Str) (n : Nat) : (List.replicate n (stD ss)).flatten = stD (List.replicate n ss).flatten := by
  unfold stD
  rw [List.map_flatten, List.map_replicate]
theorem stD_get {ss : List Str} {i : Nat} {s : Str} (h : ss[i]? = some s) : (stD ss)[i]? = some (.str s) := by unfold stD; rw [List.getElem?_map, h]; rfl
end DL
namespace DL
open PySem L2 PySem.W
/-- the end of a loop within a loop -/
theorem g_jpH {K : PySem.W.Frag} {B F0 : Hp} {ta ta' : List (V × W)} {Inv : Ro → Cells → Prop} {ro : Ro} {ka : Cells} (h : ∀ p ∈ ta, p ∈ ta') (i : Inv ro ka) : Gp K B F0 ta' (Jp K B F0 ta Inv) ro ka := fun sg H e => ⟨ro, ka, i, e.held h⟩
end DL
namespace DL
open PySem L2 PySem.W
def inD (ns : List Int) : List D := ns.map .int
/-- w is the script -/
def Scr (K : PySem.W.Frag) (w : W) (ns : List Int) : Prop := w = .val (.lst (inD ns)) ∨ ∃ p, w = .val (.adr p) ∧ ∀ H, SqL K H p (ns.map V.int)
theorem law_sp {K : PySem.W.Frag} {Cc : Ct} {H : Hp} {a : Addr} {ns : List Int} (hC : ∀ z, Scr K z ns → Cc [z] [] (Rt (.bl true) [])) (hS : SqL K H a (ns.map V.int)) : spC K Cc [.ref a] H (fun v _ => v = .bl true) fun _ _ _ => False := by
  have rt : ∀ {B F0 : Hp}, RtOk K B F0 (Rt (.bl true) []) (fun v _ => v = .bl true) := fun {B F0} d ka v H' o e => by
    obtain ⟨h, _⟩ := o
    cases h
    exact e.tm_bl List.mem_cons_self
  have rx : ∀ {B F0 : Hp}, RxOk K B F0 (Rt (.bl true) []) (fun _ _ _ => False) := fun {B F0} => ⟨fun C fs ka dx H' o _ => (by cases o.1), fun C ka H' o _ => (by cases o.1)⟩
  have nob : Sub (fun _ => none) H := fun _ _ h => by cases h
  rcases id hS with h | h
  · refine ⟨fun _ => none, gH H, [.val (.lst (inD ns))], [], _, hC _ (.inl rfl), rfl, ⟨gH H, Gr.refl _ _, gH_nz, gH_exz, nob, List.nodup_nil, fun p hp => (by cases hp), rfl, fun i w e => by simp at e, fun p hp => ?_⟩, rt, rx⟩
    have hp2 : p = (V.ref a, W.val (.lst (inD ns))) := by simpa using hp
    subst hp2
    refine ⟨a, ns.map V.int, rfl, .inl ?_, rpl_ints ns⟩
    unfold gH
    rcases h with h | ⟨o, h⟩
    · rw [h]
    · rw [h]
      rfl
  · refine ⟨fun _ => none, fun _ => none, [.val (.adr a)], [], _, hC _ (.inr ⟨a, rfl, fun _ => .inr h⟩), rfl, ⟨fun _ => none, Gr.refl _ _, fun _ _ h => (by cases h), fun _ _ h => (by cases h), nob, List.nodup_nil, fun p hp => (by cases hp), rfl, fun i w e => by simp at e, fun p hp => ?_⟩, rt, rx⟩
    have hp2 : p = (V.ref a, W.val (.adr a)) := by simpa using hp
    subst hp2
    rfl
/-- what the head must tell of a law's def: its contract, kept by every list of numbers -/
def LawIn (l : PySem.W.OpenLaw) (k : Nat) (x : Str) (w : World) (mg : Str → Option Value) (f : Addr) (h : Heap) : Prop :=
  ∃ (K : PySem.W.Frag) (Cc : Ct) (fd : FuncData), K.In h ∧ (∀ z ns, Scr K z ns → Cc [z] [] (Rt (.bl true) [])) ∧ (∀ (s : Shared) (u : Value), BindsTo s fd ⟨[u], []⟩ [(x, u)]) ∧ ∀ base : Heap, FnOk l.prog w K mg base (L2.CX l.prog w) k f fd [x] (spC K Cc)
abbrev LawWalk (l : PySem.W.OpenLaw) (q : Program) (loose : List Str) (XP : (Str → Option Value) → Heap → Prop) (YP : World → Heap → Prop) (d : DefRec) : Prop := PySem.W.WalkO q loose XP YP l.row.toRowW d [] (fun g us => PySem.call g us)
/-- the law's walk, from what the head tells -/
theorem walk_D {l : PySem.W.OpenLaw} {n k : Nat} {q : Program} {loose : List Str} {XP : (Str → Option Value) → Heap → Prop} {YP : World → Heap → Prop} {d : DefRec} {x : Str} (most : l.most = some n) (fits : n ≤ sizeLine)
    (plain : d.params.defaults = []) (room : Room k callerA) (told : ∀ w mg f h, YP w h → h.Ns mainGlobals mg → mg d.name = some (.ref f) → LawIn l k x w mg f h) : LawWalk l q loose XP YP d :=
  Att.attach_call most plain fun w _ _ mg _ f _ _ _ _ arg vs ns G known _ _ _ at_ obj nums short grown => by
    have ⟨K, Cc, fd, inH, keeps, binds, ok⟩ := told w mg f _ known G.T.g at_
    exact law_call inH G.T.g G.T.b G.T.builtins G.T.nolimit grown obj nums (Nat.le_trans short fits) room (fun base _ _ => ok base) binds (fun H _ S => law_sp (fun z hz => keeps z ns hz) S) fun H e s' z => by
      obtain ⟨_, _, _, _, _, _, _, _, _, _, _, _, bad⟩ := z
      exact bad
end DL

/-! DU: tuple * number (own work). -/
namespace DL
open PySem PySem.Spec PyProof.Rows L2
/-- a tuple taken once is the tuple itself -/
theorem once_same {l : Addr} {us : Array Value} {tok : Tok} : Meets (Builtin.«tuple.__mul__» ⟨[.ref l, .int 1 tok], []⟩) (fun _ R st => IsTup st.heap l us ∧ R (.ok (.ret (.ref l))) st) := Meets.of_wp fun _ _ _ _ st both => by
  have ⟨⟨⟨kind, dct, stuff, slots⟩, there, k, n, d⟩, over⟩ := both
  cases k
  cases d
  have one : (us.isEmpty || (1 : Int) == 1) = true := Bool.or_eq_true_iff.mpr (.inr rfl)
  have index := AutoSeq1.idx_int
  cases st
  wp_walk using wpAny_loadPart' there
  exact ⟨_, rfl, over⟩
def rOnceT (K : PySem.W.Frag) : R2 := fun x y H Q => ∃ l xs, x = .ref l ∧ y = .int 1 ∧ SqT K H l xs ∧ Q (.ref l) H
theorem op_onceT {X : Cx} : OpR X (binaryOp .Mult) (rOnceT X.K) := fun pins st sg H x y v u Q I rx ry want => by
  have ⟨l, xs, ex, ey, t, q⟩ := want
  subst ex ey
  cases rx
  have ⟨tok, e⟩ := ry
  subst e
  have ⟨us, _, tup, _⟩ := I.tuple t
  have ⟨⟨kind, dct, stuff, slots⟩, there, k, n, d⟩ := tup
  cases k
  cases d
  have here : st.TypeIs (.ref l) "tuple" := ⟨_, there, rfl⟩
  have done : wpAny (model X.prog X.w) X.A (call (.builtin "tuple.__mul__") [.ref l, .int 1 tok]) (EP X pins sg Q) X.xe st := call_meets F.slot_tuple_mul here F.entry_tuple_mul (F.args_tuple_mul_2 _ _) once_same ⟨tup, .ref l, H, I, rfl, q⟩
  have declined : wpAny (model X.prog X.w) X.A (call (.builtin "int.__rmul__") [.int 1 tok, .ref l]) (fun r s1 => r = .notImplemented ∧ s1.TypeIs (.ref l) "tuple" ∧ wpAny (model X.prog X.w) X.A (call (.builtin "tuple.__mul__") [.ref l, .int 1 tok]) (EP X pins sg Q) X.xe s1) X.xe st :=
    call_meets F.slot_int_rmul (typeIs_int st 1 tok) F.entry_int_rmul (F.args_int_rmul_2 _ _) (int_rmul_tuple 1 tok l us.toArray n dct slots) ⟨there, rfl, here, done⟩
  exact wpAny_binaryOp_repeat_ref (U := "int") (by decide) here (fun s1 => typeIs_int s1 1 tok) noFill_tuple_mul F.fills_int_mul F.slot_int_rmul repeat_tuple F.slot_int_index.lookup declined
/-- numbers, list * number, tuple * number -/
def rMulV (K : PySem.W.Frag) : R2 := fun x y H Q => rMulU x y H Q ∨ (fun x y H Q => rRepT K x y H Q ∨ rOnceT K x y H Q) x y H Q
theorem op_mulV {X : Cx} : OpR X (binaryOp .Mult) (rMulV X.K) := op_mulU.or (op_repT.or op_onceT)
section
open PySem.W
variable {K : PySem.W.Frag} {ro : Ro} {ka k1 k2 : Cells} {te tf : TE}
theorem rv_repT {ds : List D} {i : Int} (hne : ds ≠ []) (h1 : 1 ≤ i) (h2 : i ≤ 1000) (hl : ds.length ≤ 1000) : RvD K (rMulV K) ka (.val (.tup ds)) (.val (.int i)) (.val (.tup (List.replicate i.toNat ds).flatten)) := by
  by_cases h : i = 1
  · subst h
    have e : (List.replicate (1 : Int).toNat ds).flatten = ds := by simp
    rw [e]
    refine rvd_r (rvd_r fun B F0 ro ta sg H u v Q e hu hv q => ?_)
    obtain ⟨F, g, ef⟩ := id e
    obtain ⟨a, xs, rfl, s1, r1⟩ := Lk.vt.get ef (ef.tm _ hu)
    exact ⟨a, xs, rfl, e.tm_int hv, s1, q _ _ ⟨F, g, ef.push (ef.tm _ hu)⟩⟩
  · refine rvd_r (rvd_l fun B F0 ro ta sg H u v Q e hu hv q => ?_)
    obtain ⟨F, g, ef⟩ := id e
    obtain ⟨a, xs, rfl, s1, r1⟩ := Lk.vt.get ef (ef.tm _ hu)
    refine ⟨a, i, xs, rfl, e.tm_int hv, s1, fun z => hne (List.eq_nil_of_length_eq_zero (by rw [← rpl_len r1, z]; rfl)), by omega, h2, by rw [rpl_len r1]; exact hl, fun p hp => q _ _ ?_⟩
    obtain ⟨e4, g4⟩ := ef.lay (o := .tup (List.replicate i.toNat xs).flatten) hp rfl
    exact ⟨_, g.trans g4, e4.push ⟨p, _, rfl, .inl (.inl upd_same), RpL.mono g4.sub.exz ef.nz _ _ (rpl_repl r1 _)⟩⟩
theorem ev_repT {ds : List D} {i : Int} (h : EvD K te ro ka (.val (.tup ds)) k1) (h' : EvD K tf ro k1 (.val (.int i)) k2) (hne : ds ≠ []) (h1 : 1 ≤ i) (h2 : i ≤ 1000) (hl : ds.length ≤ 1000) : EvD K (tOp (rMulV K) te tf) ro ka (.val (.tup (List.replicate i.toNat ds).flatten)) k2 := ev_op h h' (rv_repT hne h1 h2 hl)
/-- name op= number -/
theorem g_augI {B F0 : Hp} {ta : List (V × W)} {De : Ends} {i : Nat} {x y z : Int} {ti : TIp} (hi : ro[i]? = some (some (.val (.int x)))) (h : EvD K te ro ka (.val (.int y)) k1) (ht : ∀ H Q, Q (.int z) H → ti (.int x) (.int y) H Q) (k : Gp K B F0 ta De.nx (ro.set i (some (.val (.int z)))) k1) : Gp K B F0 ta (tAug i te ti De) ro ka := fun sg H e => by
  obtain ⟨F, g, ef⟩ := id e
  obtain ⟨v, h1, h2⟩ := ef.sl i _ hi
  have hv : v = .int x := h2
  subst hv
  refine ⟨_, h1, h B F0 ta sg H _ e fun w H1 e1 => ?_⟩
  have hw := e1.tm_int (v := w) (i := y) List.mem_cons_self
  subst hw
  exact ht _ _ (k _ _ ((e1.pop.push_imm (v := .int z) (w := .val (.int z)) fun _ => rfl).set i))
end
end DL

/-! DV: dicts, sorted texts, data compared by < (own work). -/
namespace DL
open PySem L2 PySem.W

/-! ### tables -/
section
variable {κ α β : Type} [DecidableEq κ]
def getT (kvs : List (κ × α)) (k : κ) : Option α := (kvs.find? fun kv => decide (kv.1 = k)).map (·.2)
def hasT (kvs : List (κ × α)) (k : κ) : Bool := kvs.any fun p => decide (p.1 = k)
def newAt (k : κ) (v : α) (p : κ × α) : κ × α := if p.1 = k then (p.1, v) else p
/-- a key that stands keeps its place, a new one comes last -/
def putT (kvs : List (κ × α)) (k : κ) (v : α) : List (κ × α) := if hasT kvs k = true then kvs.map (newAt k v) else kvs ++ [(k, v)]
def dropT (kvs : List (κ × α)) (k : κ) : List (κ × α) := kvs.filter fun kv => decide (kv.1 ≠ k)
/-- tables of the same keys -/
def PT (R : α → β → Prop) : List (κ × α) → List (κ × β) → Prop
  | [], xs => xs = []
  | (k, d) :: ds, xs => ∃ x ys, xs = (k, x) :: ys ∧ R d x ∧ PT R ds ys
variable {R : α → β → Prop}
theorem PT.any : ∀ {ds : List (κ × α)} {xs : List (κ × β)}, PT R ds xs → ∀ k, hasT xs k = hasT ds k
  | [], xs, h, k => by rw [show xs = [] from h]; rfl
  | (k', d) :: ds, xs, h, k => by
    obtain ⟨x, ys, rfl, _, h2⟩ := h
    unfold hasT
    rw [List.any_cons, List.any_cons]
    exact congrArg (fun z => decide (k' = k) || z) (PT.any h2 k)
theorem PT.map (k : κ) {d : α} {x : β} (r : R d x) : ∀ {ds : List (κ × α)} {xs : List (κ × β)}, PT R ds xs → PT R (ds.map (newAt k d)) (xs.map (newAt k x))
  | [], xs, h => by rw [show xs = [] from h]; rfl
  | (k', d') :: ds, xs, h => by
    obtain ⟨x', ys, rfl, h1, h2⟩ := h
    have rest := PT.map k r h2
    by_cases e : k' = k
    · have e1 : newAt k d (k', d') = (k', d) := if_pos e
      have e2 : newAt k x (k', x') = (k', x) := if_pos e
      rw [List.map_cons, e1, List.map_cons, e2]
      exact ⟨x, _, rfl, r, rest⟩
    · have e1 : newAt k d (k', d') = (k', d') := if_neg e
      have e2 : newAt k x (k', x') = (k', x') := if_neg e
      rw [List.map_cons, e1, List.map_cons, e2]
      exact ⟨x', _, rfl, h1, rest⟩
theorem PT.snoc {k : κ} {d : α} {x : β} (r : R d x) : ∀ {ds : List (κ × α)} {xs : List (κ × β)}, PT R ds xs → PT R (ds ++ [(k, d)]) (xs ++ [(k, x)])
  | [], xs, h => by rw [show xs = [] from h]; exact ⟨x, [], rfl, r, rfl⟩
  | (k', d') :: ds, xs, h => by
    obtain ⟨x', ys, rfl, h1, h2⟩ := h
    exact ⟨x', _, rfl, h1, PT.snoc r h2⟩
theorem PT.put {ds : List (κ × α)} {xs : List (κ × β)} (h : PT R ds xs) (k : κ) {d : α} {x : β} (r : R d x) : PT R (putT ds k d) (putT xs k x) := by
  unfold putT
  rw [h.any k]
  split
  · exact h.map k r
  · exact h.snoc r
theorem PT.drop (k : κ) : ∀ {ds : List (κ × α)} {xs : List (κ × β)}, PT R ds xs → PT R (dropT ds k) (dropT xs k)
  | [], xs, h => by rw [show xs = [] from h]; rfl
  | (k', d') :: ds, xs, h => by
    obtain ⟨x', ys, rfl, h1, h2⟩ := h
    unfold dropT
    rw [List.filter_cons, List.filter_cons]
    by_cases e : k' = k
    · rw [if_neg (by simpa using e), if_neg (by simpa using e)]; exact PT.drop k h2
    · rw [if_pos (by simpa using e), if_pos (by simpa using e)]; exact ⟨x', _, rfl, h1, PT.drop k h2⟩
theorem PT.get (k : κ) : ∀ {ds : List (κ × α)} {xs : List (κ × β)}, PT R ds xs → (getT ds k = none → getT xs k = none) ∧ ∀ d, getT ds k = some d → ∃ x, getT xs k = some x ∧ R d x
  | [], xs, h => by rw [show xs = [] from h]; exact ⟨fun _ => rfl, fun d q => by cases q⟩
  | (k', d') :: ds, xs, h => by
    obtain ⟨x', ys, rfl, h1, h2⟩ := h
    by_cases e : k' = k
    · have e1 : getT ((k', d') :: ds) k = some d' := by simp [getT, List.find?_cons, e]
      have e2 : getT ((k', x') :: ys) k = some x' := by simp [getT, List.find?_cons, e]
      rw [e1, e2]
      refine ⟨fun q => (by cases q), fun d q => ?_⟩
      cases q
      exact ⟨x', rfl, h1⟩
    · have e1 : getT ((k', d') :: ds) k = getT ds k := by simp [getT, List.find?_cons, e]
      have e2 : getT ((k', x') :: ys) k = getT ys k := by simp [getT, List.find?_cons, e]
      rw [e1, e2]
      exact PT.get k h2
theorem PT.len : ∀ {ds : List (κ × α)} {xs : List (κ × β)}, PT R ds xs → xs.length = ds.length
  | [], xs, h => by rw [show xs = [] from h]; rfl
  | (k', d') :: ds, xs, h => by
    obtain ⟨x', ys, rfl, h1, h2⟩ := h
    rw [List.length_cons, List.length_cons, PT.len h2]
theorem PT.at : ∀ {ds : List (κ × α)} {xs : List (κ × β)}, PT R ds xs → ∀ {i : Nat} {p : κ × α}, ds[i]? = some p → ∃ x, xs[i]? = some (p.1, x) ∧ R p.2 x
  | [], xs, h, i, p, e => by simp at e
  | (k', d') :: ds, xs, h, 0, p, e => by
    obtain ⟨x', ys, rfl, h1, h2⟩ := h
    cases e
    exact ⟨x', rfl, h1⟩
  | (k', d') :: ds, xs, h, i + 1, p, e => by
    obtain ⟨x', ys, rfl, h1, h2⟩ := h
    exact PT.at h2 (i := i) (by simpa using e)
theorem putT_len (kvs : List (κ × α)) (k : κ) (v : α) : (putT kvs k v).length ≤ kvs.length + 1 := by
  unfold putT
  split
  · rw [List.length_map]; omega
  · rw [List.length_append, List.length_cons, List.length_nil]; omega
end
theorem rpk_pt {K : PySem.W.Frag} {F : Hp} : ∀ {ds : List (Key × D)} {xs : List (Key × V)}, RpK K F ds xs ↔ PT (Rp K F) ds xs
  | [], xs => Iff.rfl
  | (k, d) :: ds, xs => ⟨fun ⟨x, ys, e, h1, h2⟩ => ⟨x, ys, e, h1, rpk_pt.mp h2⟩, fun ⟨x, ys, e, h1, h2⟩ => ⟨x, ys, e, h1, rpk_pt.mpr h2⟩⟩
/-- a key as data -/
def kD : Key → D
  | .inl i => .int i
  | .inr s => .str s

section
variable {K : PySem.W.Frag} {B F F0 : Hp} {ro : Ro} {ka k1 k2 k3 kr : Cells} {ta : List (V × W)} {sg : L2.St} {H H' : Hp} {te tf tg tk tv : TE} {tr : TA} {tt tu : TT} {w x y z : W} {n m : Nd} {C dx a : Addr} {b : Bool} {P : L2.St → Hp → Prop} {De : Ends} {t u : TS} {E : XK}
theorem En.tm_key (e : En K B F0 ro ka ta sg H) {v : V} {k : Key} (h : (v, W.val (kD k)) ∈ ta) : v = kV k := by
  cases k with
  | inl i => exact e.tm_int h
  | inr s => exact e.tm_str h
/-- {k: v for x in .. if ..}: what is told of the dict -/
theorem evr_dc {wi : TI} {ws : List W} {C : Cells → Prop} {j : Nat} {vs : List Nat} (h : EvI K wi ro ka ws C k1) (hj : j ∈ vs) (hn : ws.length ≤ 1000000) (Inv : Nat → List (Key × D) → Cells → Prop) (h0 : Inv 0 [] k1) (hC : ∀ i acc k, Inv i acc k → C k ∧ ∀ x, C (k ++ [x]))
    (hs : ∀ i w acc k, ws[i]? = some w → Inv i acc k → (∃ k2, EvT K tt ((wipeR ro vs).set j (some w)) k false k2 ∧ Inv (i + 1) acc k2) ∨ ∃ k2 k3 k4 c d, EvT K tt ((wipeR ro vs).set j (some w)) k true k2 ∧ EvD K tk ((wipeR ro vs).set j (some w)) k2 (.val (kD c)) k3 ∧ EvD K tv ((wipeR ro vs).set j (some w)) k3 (.val d) k4 ∧ Inv (i + 1) (putT acc c d) k4)
    : EvNR K (tDc wi (gName j) tt tk tv vs) ro ka (fun n k => ∃ acc, n = .dic acc ∧ Inv ws.length acc k) := fun B F0 ta sg H Q e q =>
  h B F0 ta sg H _ e fun J ta' H1 hta e1 hgo hst => fun Dl hD => by
    let P : Nat → Hp → Prop := fun i H => ∃ acc k, Inv i acc k ∧ acc.length ≤ i ∧ En K B F0 ro (k ++ [(Dl, .dic acc)]) ta' sg H
    have p0 : P 0 (upd H1 Dl (.dK [])) := by
      obtain ⟨F, g, e1⟩ := e1
      exact ⟨[], k1, h0, Nat.le_refl _, F, g, e1.cell (o := .dK []) hD (n := .dic []) ⟨[], upd_same, rfl⟩⟩
    refine ⟨fun i m H => m = ws.length - i ∧ i ≤ ws.length ∧ P i H, ⟨ws.length, by simp, Nat.zero_le _, p0⟩, ?_⟩
    rintro i m H2 ⟨rfl, hi, acc, k, inv, hlen, e2⟩
    by_cases hlt : i < ws.length
    · have hw := List.getElem?_eq_getElem hlt
      obtain ⟨g1, g2⟩ := hgo i ws[i] ro (k ++ [(Dl, .dic acc)]) ta' sg H2 hw ((hC i acc k inv).2 _) (fun p hp => hp) e2
      refine .inr ⟨g1, P (i + 1), fun H' p => ⟨ws.length - (i + 1), by omega, rfl, hlt, p⟩, fun x H3 y => ?_⟩
      have e3 := g2 x H3 y
      refine ⟨wipe_set sg vs hj x, ?_⟩
      have out : ∀ {k : Cells} {ta2 : List (V × W)} {H : Hp}, (∃ F, Gr B F0 F ∧ EnF K B F ((wipeR ro vs).set j (some ws[i])) k ta2 ((wipe sg vs).set j (some x)) H ∧ ∀ (a : Nat) w, ro[a]? = some (some w) → ∃ v, sg[a]? = some (some v) ∧ WOk K B F v w) → En K B F0 ro k ta2 sg H := fun ⟨F, g, q, hs⟩ => ⟨F, g, q.frame (by obtain ⟨_, _, e0⟩ := e; exact e0.ln) hs⟩
      obtain ⟨F3, gF3, eF3⟩ := e3
      have slots : ∀ {F : Hp}, Gr B F3 F → ∀ (a : Nat) w, ro[a]? = some (some w) → ∃ v, sg[a]? = some (some v) ∧ WOk K B F v w := fun {F} g a w ha => by
        obtain ⟨v, h1, h2⟩ := eF3.sl a w ha
        exact ⟨v, h1, wok_gr eF3.nz g h2⟩
      have e4' : En K B F3 ((wipeR ro vs).set j (some ws[i])) (k ++ [(Dl, .dic acc)]) ta' ((wipe sg vs).set j (some x)) H3 :=
        ⟨F3, Gr.refl _ _, ((wipe_en (vs := vs) eF3).set (eF3.tm _ List.mem_cons_self) j).held fun p hp => List.mem_cons_of_mem _ hp⟩
      rcases hs i ws[i] acc k hw inv with ⟨k2, t1, inv2⟩ | ⟨k2, k3, k4, c, d, t1, t2, t3, inv2⟩
      · refine t1.fr [(Dl, .dic acc)] B F3 ta' _ H3 _ e4' fun H4 ⟨F4, g4, e5⟩ => ?_
        exact ⟨acc, k2, inv2, Nat.le_succ_of_le hlen, out ⟨F4, gF3.trans g4, e5, slots g4⟩⟩
      · refine t1.fr [(Dl, .dic acc)] B F3 ta' _ H3 _ e4' fun H4 e5 => ?_
        refine t2.fr [(Dl, .dic acc)] B F3 ta' _ H4 _ e5 fun u H5 e6 => ?_
        have hu := e6.tm_key (v := u) (k := c) List.mem_cons_self
        refine t3.fr [(Dl, .dic acc)] B F3 _ _ H5 _ e6 fun v H6 ⟨F5, g5, e7⟩ => ?_
        have hx : (k4 ++ [(Dl, Nd.dic acc)])[k4.length]? = some (Dl, Nd.dic acc) := by simp
        obtain ⟨xs, h1, h2⟩ := (e7.ce _ (List.mem_of_getElem? hx)).2.2
        have hv := e7.tm _ List.mem_cons_self
        have e8 := e7.write (o := .dK (putK xs c v)) (n' := .dic (putT acc c d)) hx ⟨_, upd_same, rpk_pt.mpr ((rpk_pt.mp h2).put c hv)⟩
        have hset : (k4 ++ [(Dl, Nd.dic acc)]).set k4.length (Dl, Nd.dic (putT acc c d)) = k4 ++ [(Dl, Nd.dic (putT acc c d))] := by
          rw [List.set_append_right _ _ (Nat.le_refl _)]
          simp
        rw [hset] at e8
        refine ⟨xs, c, hu, h1, by rw [(rpk_pt.mp h2).len]; exact Nat.lt_of_le_of_lt (Nat.le_trans hlen (Nat.le_trans hi hn)) (by decide), putT acc c d, k4, inv2, Nat.le_trans (putT_len _ _ _) (Nat.succ_le_succ hlen), ?_⟩
        exact out ⟨F5, gF3.trans g5, e8.held fun p hp => List.mem_cons_of_mem _ (List.mem_cons_of_mem _ hp), slots g5⟩
    · have ei : i = ws.length := by omega
      subst ei
      refine .inl ⟨hst _ ro (k ++ [(Dl, .dic acc)]) ta' sg H2 (Nat.le_refl _) ((hC _ acc k inv).2 _) (fun p hp => hp) e2, ?_⟩
      exact q _ _ Dl H2 ⟨acc, rfl, inv⟩ (e2.held hta)

/-! ### a dict that is the def's own, locked while it is walked -/
theorem En.cellAt (e : En K B F0 ro ka ta sg H) {j : Nat} (hj : ka[j]? = some (a, n)) : ∃ F, Gr B F0 F ∧ EnF K B F ro ka ta sg H ∧ NdOk K F H a n := let ⟨F, g, q⟩ := e; ⟨F, g, q, (q.ce _ (List.mem_of_getElem? hj)).2.2⟩
theorem rpl_strs {F : Hp} : ∀ {ss : List Str} {vs : List V}, RpL K F (stD ss) vs → vs = ss.map V.str
  | [], vs, h => h
  | s :: ss, vs, h => by
    obtain ⟨x, ys, rfl, h1, h2⟩ := h
    rw [rpl_strs h2, show x = V.str s from h1]
    rfl
/-- the different ones, in the order in which they come -/
def dedS (xs : List Str) : List Str := xs.foldl (fun acc s => if s ∈ acc then acc else acc ++ [s]) []
end
end DL

/-! DW: data of any depth: in, < (own work). -/
namespace DL
open PySem L2 PySem.W PySem.SeqAt
mutual
def pdD : D → PyData
  | .bl b => .bool b | .int i => .int i | .str s => .str s
  | .tup ds => .tuple (pdL ds) | .lst ds => .list (pdL ds)
  | _ => .none
def pdL : List D → List PyData
  | [] => []
  | d :: ds => pdD d :: pdL ds
end
section
variable {X : Cx} {pins : List (Addr × Obj)} {sg : L2.St} {H G : Hp} {s : Shared}
end
/-- values of α as data -/
structure Enc (α : Type) [DecidableEq α] [Datum α] (f : α → D) : Prop where
  pd : ∀ a, pdD (f a) = Datum.toD a
  pl : ∀ a, DL.pl 60 (f a) = true
section
variable {K : PySem.W.Frag} {B F F0 : Hp} {ro : Ro} {ka k1 k2 k3 kr : Cells} {ta : List (V × W)} {sg : L2.St} {H H' : Hp} {te tf tg : TE} {w x y z : W}
variable {α : Type} [DecidableEq α]
end

end DL

/-! DX: a dict comprehension stored in a local name on its own line (own work over the hand layer's dc_core). -/
namespace DL
open PySem PySem.Spec PyProof.Rows L2
section
variable {X : Cx} {i : Nat} {y : Str} {py pos spos : Pos} {kx vx tg iter : Expr} {ifs : List Expr} {scope : Scope} {own : List (Str × Nat)} {wi : TI} {g : TG} {tt : TT} {tk tv : TE}
end
end DL

/-! DY: != of two tuples whose items are equal, some by an own == (own work; the equality of the items is the hand layer's EqG). -/
namespace DL
open PySem L2 PySem.SeqAt
section
variable {prog : Program} {w : World}
end
section
variable {X : Cx} {n : Nat} {D : Eqv}
end
end DL
namespace DL
open PySem L2 PySem.W
section
variable {K : PySem.W.Frag} {B F F0 : Hp} {ro : Ro} {ka k1 k2 : Cells} {ta : List (V × W)} {sg : L2.St} {H H' : Hp} {te tf : TE} {C : Addr} {Cc : Ct}
theorem En.ext (e : En K B F0 ro ka ta sg H) (x : L2.Ext H H') : En K B F0 ro ka ta sg H' := by
  obtain ⟨F, g, q⟩ := e
  refine ⟨F, g, q.nz, q.fz.sub x, fun a o h => x _ _ (q.fr _ _ h), q.nd, fun p hp => ?_, q.ln, q.sl, q.tm⟩
  obtain ⟨h1, h2, h3⟩ := q.ce p hp
  refine ⟨h1, h2, ?_⟩
  obtain ⟨a, n⟩ := p
  cases n with
  | lst ds => obtain ⟨xs, e, r⟩ := h3; exact ⟨xs, x _ _ e, r⟩
  | dic ds => obtain ⟨xs, e, r⟩ := h3; exact ⟨xs, x _ _ e, r⟩
  | dit ds => obtain ⟨xs, e, r⟩ := h3; exact ⟨xs, x _ _ e, r⟩
  | ldic o xs ds => obtain ⟨e, r⟩ := h3; exact ⟨x _ _ e, r⟩
  | ins C ds => obtain ⟨dx, xs, e, r⟩ := h3; exact ⟨dx, xs, x _ _ e, r⟩
  | xd ds => obtain ⟨xs, e, r⟩ := h3; exact ⟨xs, x _ _ e, r⟩
  | din w ds => obtain ⟨xs, e, r⟩ := h3; exact ⟨xs, x _ _ e, r⟩
end
end DL

/-! DZ: evaluation by a relation (own work). -/
namespace DL
open PySem L2 PySem.W
/-- te ends with some value and cells of which P tells -/
def EvR (K : PySem.W.Frag) (te : TE) (ro : Ro) (ka : Cells) (P : W → Cells → Prop) : Prop := ∀ B F0 ta sg H (Q : VK), En K B F0 ro ka ta sg H → (∀ w k v H', P w k → En K B F0 ro k ((v, w) :: ta) sg H' → Q v H') → te sg H Q
def RvR (K : PySem.W.Frag) (r : R2) (ka : Cells) (x y : W) (P : W → Cells → Prop) : Prop := ∀ B F0 ro ta sg H u v (Q : VK), En K B F0 ro ka ta sg H → (u, x) ∈ ta → (v, y) ∈ ta → (∀ w k t H', P w k → En K B F0 ro k ((t, w) :: ta) sg H' → Q t H') → r u v H Q
section
variable {K : PySem.W.Frag} {B F F0 : Hp} {ro : Ro} {ka k1 k2 k3 kr : Cells} {ta : List (V × W)} {sg : L2.St} {H H' : Hp} {te tf tg : TE} {tr : TA} {w x y z : W} {n : Nd} {P P2 : W → Cells → Prop} {De : Ends} {u : TS} {E : XK} {r : R2}
theorem EvD.toR (h : EvD K te ro ka w k1) : EvR K te ro ka (fun w' k => w' = w ∧ k = k1) := fun B F0 ta sg H Q e q => h B F0 ta sg H Q e fun v H' e' => q w k1 v H' ⟨rfl, rfl⟩ e'
theorem En.tmA (e : En K B F0 ro ka ta sg H) (a : Addr) : En K B F0 ro ka ((.ref a, .val (.adr a)) :: ta) sg H := e.push_imm fun _ => rfl
theorem EvN.toR (h : EvN K te ro ka n k1) : EvR K te ro ka (fun w' k => ∃ a, w' = .val (.adr a) ∧ k = k1 ++ [(a, n)]) := fun B F0 ta sg H Q e q => h B F0 ta sg H Q e fun a H' e' => q _ _ _ H' ⟨a, rfl, rfl⟩ (e'.tmA a)
theorem EvR.imp (h : EvR K te ro ka P) (i : ∀ w k, P w k → P2 w k) : EvR K te ro ka P2 := fun B F0 ta sg H Q e q => h B F0 ta sg H Q e fun w k v H' p => q w k v H' (i w k p)
theorem RvD.toR (h : RvD K r ka x y z) : RvR K r ka x y (fun w' k => w' = z ∧ k = ka) := fun B F0 ro ta sg H u v Q e h1 h2 q => h B F0 ro ta sg H u v Q e h1 h2 fun t H' e' => q z ka t H' ⟨rfl, rfl⟩ e'
theorem RvN.toR (h : RvN K r ka x y n) : RvR K r ka x y (fun w' k => ∃ a, w' = .val (.adr a) ∧ k = ka ++ [(a, n)]) := fun B F0 ro ta sg H u v Q e h1 h2 q => h B F0 ro ta sg H u v Q e h1 h2 fun a H' e' => q _ _ _ H' ⟨a, rfl, rfl⟩ (e'.tmA a)
theorem RvR.imp (h : RvR K r ka x y P) (i : ∀ w k, P w k → P2 w k) : RvR K r ka x y P2 := fun B F0 ro ta sg H u v Q e h1 h2 q => h B F0 ro ta sg H u v Q e h1 h2 fun w k t H' p => q w k t H' (i w k p)
/-- a call whose end a word tells -/
theorem evr_call {Cc : Ct} {ws : List W} {out : Oc} (kr : Cells) (ha : EvA K tr ro ka ws (k1 ++ kr)) (hC : Cc ws k1 out) (ho : ∀ o k, out o k → ∃ d, o = .ret d) : EvR K (tCall (spC K Cc) [] E tr) ro ka (fun w k => ∃ d k2, out (.ret d) k2 ∧ w = .val d ∧ k = k2 ++ kr) := fun B F0 ta sg H Q e q =>
  ha B F0 ta sg H _ e fun vs H1 hl e1 => by
    rw [List.append_nil]
    exact sp_rel e1 hl hC ho fun d k2 v H' o e2 => q _ _ v H' ⟨d, k2, o, rfl, rfl⟩ e2
theorem EvR.op (h : EvR K te ro ka P) (h2 : ∀ w k, P w k → ∃ y k2, EvD K tf ro k y k2 ∧ RvR K r k2 w y P2) : EvR K (tOp r te tf) ro ka P2 := fun B F0 ta sg H Q e q =>
  h B F0 ta sg H _ e fun w k v H1 p e1 => by
    obtain ⟨y, k2, hb, hr⟩ := h2 w k p
    exact hb B F0 _ sg H1 _ e1 fun v2 H2 e2 => hr B F0 ro _ sg H2 v v2 Q e2 (List.mem_cons_of_mem _ List.mem_cons_self) List.mem_cons_self fun w3 k3 t H3 p3 e3 => q w3 k3 t H3 p3 (e3.held fun z hz => by
      rcases List.mem_cons.mp hz with rfl | hz
      · exact List.mem_cons_self
      · exact List.mem_cons_of_mem _ (List.mem_cons_of_mem _ (List.mem_cons_of_mem _ hz)))
theorem g_asgR {i : Nat} (h : EvR K te ro ka P) (k : ∀ w k1, P w k1 → Gp K B F0 ta De.nx (ro.set i (some w)) k1) : Gp K B F0 ta (tAsg te (gName i) De) ro ka := fun sg H e => h B F0 ta sg H _ e fun w k1 v H1 p e1 => k w k1 p _ _ (e1.set i)
theorem q_asgR {i : Nat} (h : EvR K te ro ka P) (k : ∀ w k1, P w k1 → Gp K B F0 ta (u De) (ro.set i (some w)) k1) : Gp K B F0 ta (tSeq (tAsg te (gName i)) u De) ro ka := g_asgR (De := { De with nx := u De }) h k

/-! ### methods, min -/
theorem evr_meth {Cc : Ct} {ws : List W} {out : Oc} {C : Addr} {m : Str} {fs : List (Str × D)} {b : Bool} (kr : Cells) (h : EvD K te ro ka w k1) (l : Io k1 w C fs b) (hm : fs.lookup m = none) (ha : EvA K tr ro k1 ws (k2 ++ kr)) (hC : Cc (w :: ws) k2 out) (ho : ∀ o k, out o k → ∃ d, o = .ret d) : EvR K (tMeth C m (spC K Cc) [] E te tr) ro ka (fun w' k => ∃ d k3, out (.ret d) k3 ∧ w' = .val d ∧ k = k3 ++ kr) := fun B F0 ta sg H Q e q =>
  h B F0 ta sg H _ e fun v H1 e1 => by
    obtain ⟨F, g, ef⟩ := id e1
    obtain ⟨a, dx, xs, rfl, ha1, rx⟩ := l.get ef (ef.tm _ List.mem_cons_self)
    refine ⟨a, dx, xs, rfl, ha1, rpf_none rx hm, ha B F0 _ sg H1 _ e1 fun vs H2 hl e2 => ?_⟩
    rw [List.append_nil]
    refine sp_rel (ws := w :: ws) (vs := .ref a :: vs) (kr := kr) (ta := ta) (e2.held fun p hp => ?_) (by rw [List.length_cons, List.length_cons, hl]) hC ho fun d k3 v3 H' o e3 => q _ _ v3 H' ⟨d, k3, o, rfl, rfl⟩ e3
    have hp' : p ∈ (V.ref a, w) :: (vs.zip ws ++ ta) := hp
    rcases List.mem_cons.mp hp' with rfl | hp
    · exact List.mem_append_right _ List.mem_cons_self
    · rcases List.mem_append.mp hp with hp | hp
      · exact List.mem_append_left _ hp
      · exact List.mem_append_right _ (List.mem_cons_of_mem _ hp)
theorem EvR.d (h : EvR K te ro ka P) (hP : ∀ w' k, P w' k → w' = w ∧ k = k1) : EvD K te ro ka w k1 := fun B F0 ta sg H Q e q => h B F0 ta sg H Q e fun w' k v H' p e' => by
  obtain ⟨rfl, rfl⟩ := hP w' k p
  exact q v H' e'
/-- a method that works on no cells -/
theorem ev_methP {Cc : Ct} {ws : List W} {C : Addr} {m : Str} {fs : List (Str × D)} {b : Bool} {d : D} (h : EvD K te ro ka w k1) (l : Io k1 w C fs b) (hm : fs.lookup m = none) (ha : EvA K tr ro k1 ws k2) (hC : Cc (w :: ws) [] (Rt d [])) : EvD K (tMeth C m (spC K Cc) [] E te tr) ro ka (.val d) k2 :=
  (evr_meth (k2 := []) k2 h l hm ha hC fun o k ho => ⟨d, ho.1⟩).d fun w' k ⟨d', k3, ho, e1, e2⟩ => by
    obtain ⟨h1, h2⟩ := ho
    cases h1
    exact ⟨e1, by rw [e2, h2]; rfl⟩
theorem inV_strs (s : Str) : ∀ ss : List Str, inV (.str s) (ss.map V.str) = decide (s ∈ ss)
  | [] => rfl
  | t :: ss => by
    show ((t == s) || inV (.str s) (ss.map V.str)) = _
    rw [inV_strs s ss, Bool.eq_iff_iff, Bool.or_eq_true, decide_eq_true_eq, decide_eq_true_eq, List.mem_cons, beq_iff_eq]
    exact ⟨fun h => h.elim (fun q => .inl q.symm) .inr, fun h => h.elim (fun q => .inl q.symm) .inr⟩
theorem all_flat : ∀ ss : List Str, (ss.map V.str).all flatV = true
  | [] => rfl
  | t :: ss => by
    rw [List.map_cons, List.all_cons, all_flat ss]
    rfl
theorem rv_inL {neg tt b : Bool} {s : Str} {ss : List Str} (l : Lk ka y tt (stD ss) b) : RvD K (rIn K neg) ka (.val (.str s)) y (.val (.bl (if neg then !decide (s ∈ ss) else decide (s ∈ ss)))) := fun B F0 ro ta sg H u v Q e h1 h2 q => by
  obtain ⟨F, g, ef⟩ := id e
  have hu := e.tm_str h1
  subst hu
  obtain ⟨a, xs, rfl, s1, r1⟩ := l.get ef (ef.tm _ h2)
  have ex := rpl_strs r1
  subst ex
  refine ⟨a, ss.map V.str, rfl, s1.sq, rfl, all_flat ss, ?_⟩
  rw [inV_strs]
  exact q _ _ (e.push_imm fun _ => rfl)
theorem ev_inL {tt b : Bool} {s : Str} {ss : List Str} (h : EvD K te ro ka (.val (.str s)) k1) (h2 : EvD K tf ro k1 y k2) (l : Lk k2 y tt (stD ss) b) : EvD K (tOp (rInU K) te tf) ro ka (.val (.bl (decide (s ∈ ss)))) k2 := ev_op h h2 (rvd_r (rv_inL (neg := false) l))
theorem ev_niL {tt b : Bool} {s : Str} {ss : List Str} (h : EvD K te ro ka (.val (.str s)) k1) (h2 : EvD K tf ro k1 y k2) (l : Lk k2 y tt (stD ss) b) : EvD K (tOp (rNiU K) te tf) ro ka (.val (.bl (!decide (s ∈ ss)))) k2 := ev_op h h2 (rvd_r (rv_inL (neg := true) l))
theorem ei_map {α : Type} {ts : List α} {f : α → D} (h : EvD K te ro ka (.val (.lst (ts.map f))) k1) : EvI K (iSeq K te) ro ka (ts.map fun t => W.val (f t)) (fun _ => True) k1 := by
  have := ei_seq h .vl
  have e : (ts.map f).map (part false) = ts.map fun t => W.val (f t) := by rw [List.map_map]; rfl
  rw [e] at this
  exact this
theorem ei_strs {ss : List Str} (h : EvD K te ro ka (.val (.lst (stD ss))) k1) : EvI K (iSeq K te) ro ka (ss.map fun s => W.val (.str s)) (fun _ => True) k1 := by
  have := ei_seq h .vl
  unfold stD at this
  rw [List.map_map] at this
  exact this

/-! ### targets -/
/-- the target g takes a value of w: the slots behind it -/
def AsT (K : PySem.W.Frag) (g : TG) (w : W) (ro ro' : Ro) : Prop := ∀ B F0 ka ta sg H v (Q : L2.St → Hp → Prop), En K B F0 ro ka ta sg H → (v, w) ∈ ta → (∀ sg', En K B F0 ro' ka ta sg' H → Q sg' H) → g v sg H Q
def AsL (K : PySem.W.Frag) (t : TGs) (ws : List W) (ro ro' : Ro) : Prop := ∀ B F0 ka ta sg H vs (Q : L2.St → Hp → Prop), En K B F0 ro ka ta sg H → vs.length = ws.length → (∀ p ∈ vs.zip ws, p ∈ ta) → (∀ sg', En K B F0 ro' ka ta sg' H → Q sg' H) → t vs sg H Q
variable {ro' ro2 : Ro} {g : TG} {t : TGs} {ws : List W}
theorem at_n {i : Nat} : AsT K (gName i) w ro (ro.set i (some w)) := fun B F0 ka ta sg H v Q ⟨F, g, e⟩ h q => q _ ⟨F, g, e.set (e.tm _ h) i⟩
theorem al_nil : AsL K gNil [] ro ro := fun B F0 ka ta sg H vs Q e hl h q => ⟨List.eq_nil_of_length_eq_zero hl, q _ e⟩
theorem al_cons (h1 : AsT K g w ro ro2) (h2 : AsL K t ws ro2 ro') : AsL K (gCons g t) (w :: ws) ro ro' := fun B F0 ka ta sg H vs Q e hl h q => by
  cases vs with
  | nil => cases hl
  | cons v r => exact ⟨v, r, rfl, h1 B F0 ka ta sg H v _ e (h _ List.mem_cons_self) fun sg1 e1 => h2 B F0 ka ta sg1 H r Q e1 (by simpa using hl) (fun p hp => h p (List.mem_cons_of_mem _ hp)) q⟩
theorem at_tup {ds : List D} {m : Nat} (hm : ds.length = m) (h : AsL K t (ds.map W.val) ro ro') : AsT K (gTup K m t) (.val (.tup ds)) ro ro' := fun B F0 ka ta sg H v Q e hv q => by
  obtain ⟨F, gr, ef⟩ := id e
  obtain ⟨a, xs, rfl, s1, r1⟩ := Lk.vt.get ef (ef.tm _ hv)
  refine ⟨a, xs, rfl, s1, by rw [rpl_len r1, hm], h B F0 ka (xs.zip (ds.map W.val) ++ ta) sg H xs Q ?_ (by rw [List.length_map, rpl_len r1]) (fun p hp => List.mem_append_left _ hp) fun sg' e' => q sg' (e'.held fun p hp => List.mem_append_right _ hp)⟩
  refine ⟨F, gr, ⟨ef.nz, ef.fz, ef.fr, ef.nd, ef.ce, ef.ln, ef.sl, fun p hp => ?_⟩⟩
  rcases List.mem_append.mp hp with hp | hp
  · have : ∀ (ds : List D) (xs : List V), RpL K F ds xs → ∀ p ∈ xs.zip (ds.map W.val), WOk K B F p.1 p.2 := by
      intro ds
      induction ds with
      | nil => intro xs h p hp; rw [show xs = [] from h] at hp; simp at hp
      | cons d ds ih =>
        intro xs h p hp
        obtain ⟨x, ys, rfl, h1, h2⟩ := h
        rcases List.mem_cons.mp hp with rfl | hp
        · exact h1
        · exact ih ys h2 p hp
    exact this ds xs r1 p hp
  · exact ef.tm p hp
theorem at_t2 {d1 d2 : D} {i j : Nat} : AsT K (gTup K 2 (gCons (gName i) (gCons (gName j) gNil))) (.val (.tup [d1, d2])) ro ((ro.set i (some (.val d1))).set j (some (.val d2))) := at_tup rfl (al_cons at_n (al_cons at_n al_nil))
theorem g_asgT (h : EvD K te ro ka w k1) (a : AsT K g w ro ro') (k : Gp K B F0 ta De.nx ro' k1) : Gp K B F0 ta (tAsg te g De) ro ka := fun sg H e => h B F0 ta sg H _ e fun v H1 e1 => a B F0 k1 _ sg H1 v _ e1 List.mem_cons_self fun sg' e' => k _ _ e'.pop
theorem q_asgT (h : EvD K te ro ka w k1) (a : AsT K g w ro ro') (k : Gp K B F0 ta (u De) ro' k1) : Gp K B F0 ta (tSeq (tAsg te g) u De) ro ka := g_asgT (De := { De with nx := u De }) h a k
/-- a loop whose target is of any form -/
theorem g_forT {wi : TI} {C : Cells → Prop} {tb : TS} (h : EvI K wi ro ka ws C k1) (Inv : Nat → Ro → Cells → Prop) (h0 : Inv 0 ro k1) (hC : ∀ i ro2 ka2, Inv i ro2 ka2 → C ka2)
    (hs : ∀ i w ro2 ka2 ta', ws[i]? = some w → Inv i ro2 ka2 → ∃ ro3, AsT K g w ro2 ro3 ∧ Gp K B F0 ta' (tb { De with nx := Jp K B F0 ta' (Inv (i + 1)), ct := Jp K B F0 ta' (Inv (i + 1)), bk := De.nx }) ro3 ka2)
    (hd : ∀ ro2 ka2 ta', Inv ws.length ro2 ka2 → (∀ p ∈ ta, p ∈ ta') → Gp K B F0 ta' De.nx ro2 ka2) : Gp K B F0 ta (tFor wi g tb De) ro ka :=
  g_for h Inv h0 hC (fun i w ro2 ka2 hw inv ta' sg H e x ex => by
    obtain ⟨ro3, a, gp⟩ := hs i w ro2 ka2 ta' hw inv
    exact a B F0 ka2 _ sg H x _ ex List.mem_cons_self fun sg' e' => gp _ _ e'.pop) hd
theorem q_forT {wi : TI} {C : Cells → Prop} {tb : TS} (h : EvI K wi ro ka ws C k1) (Inv : Nat → Ro → Cells → Prop) (h0 : Inv 0 ro k1) (hC : ∀ i ro2 ka2, Inv i ro2 ka2 → C ka2)
    (hs : ∀ i w ro2 ka2 ta', ws[i]? = some w → Inv i ro2 ka2 → ∃ ro3, AsT K g w ro2 ro3 ∧ Gp K B F0 ta' (tb { De with nx := Jp K B F0 ta' (Inv (i + 1)), ct := Jp K B F0 ta' (Inv (i + 1)), bk := u De }) ro3 ka2)
    (hd : ∀ ro2 ka2 ta', Inv ws.length ro2 ka2 → (∀ p ∈ ta, p ∈ ta') → Gp K B F0 ta' (u De) ro2 ka2) : Gp K B F0 ta (tSeq (tFor wi g tb) u De) ro ka := g_forT (De := { De with nx := u De }) h Inv h0 hC hs hd
end
end DL

/-! ER: a tuple read backwards (own work). -/
namespace DL
open PySem L2 PySem.W PyProof.Rows

section
variable {prog : Program} {w : World} {A : Around} {E : Value → Shared → Prop} {s : Shared}
end
section
variable {X : Cx} {e : Expr} {te : TE} {n : Nat} {pa pb pc pd : Pos}
end
end DL

/-! EA: dicts read and written, walked while frozen, objects frozen (own work). -/
namespace DL
open PySem L2 PySem.W

/-- w is a dict of ds; b: viewed -/
inductive Dk (ka : Cells) : W → List (Key × D) → Bool → Prop where
  | v {ds : List (Key × D)} : Dk ka (.val (.dic ds)) ds false
  | w {ds : List (Key × D)} : Dk ka (.vw (.dic ds)) ds true
  | ce {a : Addr} {ds : List (Key × D)} (j : Nat) (h : ka[j]? = some (a, .dic ds)) : Dk ka (.val (.adr a)) ds false
  | cl {a : Addr} {o : Obj} {xs : List (Key × V)} {ds : List (Key × D)} (j : Nat) (h : ka[j]? = some (a, .ldic o xs ds)) : Dk ka (.val (.adr a)) ds false
section
variable {K : PySem.W.Frag} {B B' F F' F0 : Hp} {ro ro' : Ro} {ka k1 k2 k3 kr : Cells} {ta : List (V × W)} {sg sg' : L2.St} {H H' : Hp} {te tf tg td ty tk tv : TE} {tr : TA} {tt tu : TT} {w x y z : W} {n m : Nd} {C dx a : Addr} {b : Bool} {P : L2.St → Hp → Prop} {De : Ends} {t u : TS} {E : XK} {ds : List (Key × D)}
theorem Dk.get {v : V} (l : Dk ka w ds b) (e : EnF K B F ro ka ta sg H) (h : WOk K B F v w) : ∃ a xs, v = .ref a ∧ Rd H a (.dK xs) ∧ RpK K (if b then uni B F else F) ds xs := by
  cases l with
  | v =>
    obtain ⟨a, xs, rfl, h1, h2⟩ := h
    exact ⟨a, xs, rfl, e.fz.rd e.nz h1, h2⟩
  | w =>
    obtain ⟨a, xs, rfl, h1, h2⟩ := h
    exact ⟨a, xs, rfl, (uni_exz e.fz e.fr).rd (uni_nz e.nz) h1, h2⟩
  | ce j hj =>
    obtain rfl : v = .ref _ := h
    obtain ⟨_, _, xs, h1, h2⟩ := e.ce _ (List.mem_of_getElem? hj)
    exact ⟨_, xs, rfl, .inl h1, h2⟩
  | cl j hj =>
    obtain rfl : v = .ref _ := h
    obtain ⟨_, _, h1, h2⟩ := e.ce _ (List.mem_of_getElem? hj)
    exact ⟨_, _, rfl, .inr ⟨_, h1⟩, h2⟩
theorem En.dk {v : V} (l : Dk ka w ds b) (e : En K B F0 ro ka ta sg H) (h : (v, w) ∈ ta) : ∃ F a xs, Gr B F0 F ∧ EnF K B F ro ka ta sg H ∧ v = .ref a ∧ Rd H a (.dK xs) ∧ RpK K (if b then uni B F else F) ds xs := by
  obtain ⟨F, g, ef⟩ := e
  obtain ⟨a, xs, h1, h2, h3⟩ := l.get ef (ef.tm _ h)
  exact ⟨F, a, xs, g, ef, h1, h2, h3⟩
theorem getV {xs : List (Key × V)} {k : Key} : valV xs k = getT xs k := rfl
/-- d[text] -/
theorem ev_dget {s : Str} {d : D} (h : EvD K td ro ka w k1) (h2 : EvD K ty ro k1 (.val (.str s)) k2) (l : Dk k2 w ds b) (hd : getT ds (.inr s) = some d) : EvD K (tDGet td ty) ro ka (part b d) k2 := fun B F0 ta sg H Q e q =>
  h B F0 ta sg H _ e fun u H1 e1 => h2 B F0 _ sg H1 _ e1 fun v H2 e2 => by
    have hv := e2.tm_str (v := v) (i := s) List.mem_cons_self
    subst hv
    obtain ⟨F, a, xs, g, ef, rfl, h3, h4⟩ := e2.dk l (List.mem_cons_of_mem _ List.mem_cons_self)
    obtain ⟨x, hx, rx⟩ := ((rpk_pt.mp h4).get (.inr s)).2 d hd
    refine ⟨a, x, rfl, .inl ⟨xs, .inr s, h3, rfl, ?_⟩, q _ _ ⟨F, g, ?_⟩⟩
    · rw [getV, hx]
    · exact (ef.held (ta' := ta) fun p hp => List.mem_cons_of_mem _ (List.mem_cons_of_mem _ hp)).push (wok_part b rx)
theorem ev_dgetV {s : Str} {d : D} (h : EvD K td ro ka w k1) (h2 : EvD K ty ro k1 (.val (.str s)) k2) (l : Dk k2 w ds false) (hd : getT ds (.inr s) = some d) : EvD K (tDGet td ty) ro ka (.val d) k2 := ev_dget h h2 l hd
/-- text in d -/
theorem ev_din {s : Str} (h : EvD K ty ro ka (.val (.str s)) k1) (h2 : EvD K td ro k1 w k2) (l : Dk k2 w ds b) : EvD K (tDIn ty td) ro ka (.val (.bl (getT ds (.inr s)).isSome)) k2 := fun B F0 ta sg H Q e q =>
  h B F0 ta sg H _ e fun u H1 e1 => h2 B F0 _ sg H1 _ e1 fun v H2 e2 => by
    have hv := e2.tm_str (v := u) (i := s) (List.mem_cons_of_mem _ List.mem_cons_self)
    subst hv
    obtain ⟨F, a, xs, g, ef, rfl, h3, h4⟩ := e2.dk l List.mem_cons_self
    have hg := (rpk_pt.mp h4).get (.inr s)
    refine ⟨a, getT xs (.inr s), rfl, .inl ⟨xs, .inr s, h3, rfl, rfl⟩, q _ _ ?_⟩
    have e5 := (e2.held (ta' := ta) fun p hp => List.mem_cons_of_mem _ (List.mem_cons_of_mem _ hp)).push_imm (v := .bl (getT xs (.inr s)).isSome) (w := .val (.bl (getT xs (.inr s)).isSome)) fun _ => rfl
    cases hd : getT ds (.inr s) with
    | none => rw [hg.1 hd] at e5 ⊢; exact e5
    | some d =>
      obtain ⟨x, hx, _⟩ := hg.2 d hd
      rw [hx] at e5 ⊢
      exact e5
theorem ev_dni {s : Str} (h : EvD K ty ro ka (.val (.str s)) k1) (h2 : EvD K td ro k1 w k2) (l : Dk k2 w ds b) : EvD K (tDNotIn ty td) ro ka (.val (.bl (!(getT ds (.inr s)).isSome))) k2 := fun B F0 ta sg H Q e q =>
  h B F0 ta sg H _ e fun u H1 e1 => h2 B F0 _ sg H1 _ e1 fun v H2 e2 => by
    have hv := e2.tm_str (v := u) (i := s) (List.mem_cons_of_mem _ List.mem_cons_self)
    subst hv
    obtain ⟨F, a, xs, g, ef, rfl, h3, h4⟩ := e2.dk l List.mem_cons_self
    have hg := (rpk_pt.mp h4).get (.inr s)
    refine ⟨a, getT xs (.inr s), rfl, .inl ⟨xs, .inr s, h3, rfl, rfl⟩, q _ _ ?_⟩
    have e5 := (e2.held (ta' := ta) fun p hp => List.mem_cons_of_mem _ (List.mem_cons_of_mem _ hp)).push_imm (v := .bl (!(getT xs (.inr s)).isSome)) (w := .val (.bl (!(getT xs (.inr s)).isSome))) fun _ => rfl
    cases hd : getT ds (.inr s) with
    | none => rw [hg.1 hd] at e5 ⊢; exact e5
    | some d =>
      obtain ⟨x, hx, _⟩ := hg.2 d hd
      rw [hx] at e5 ⊢
      exact e5
/-- d[text] = v -/
theorem g_dput {s : Str} {d : D} {j : Nat} (hv : EvD K tv ro ka (.val d) k1) (ho : EvD K td ro k1 (.val (.adr a)) k2) (hi : EvD K ty ro k2 (.val (.str s)) k3) (hj : k3[j]? = some (a, .dic ds)) (hz : ds.length < 100000)
    (k : Gp K B F0 ta De.nx ro (k3.set j (a, .dic (putT ds (.inr s) d)))) : Gp K B F0 ta (sDPut td ty tv De) ro ka := fun sg H e =>
  hv B F0 ta sg H _ e fun v H1 e1 => ho B F0 _ sg H1 _ e1 fun u H2 e2 => hi B F0 _ sg H2 _ e2 fun y H3 e3 => by
    have hy := e3.tm_str (v := y) (i := s) List.mem_cons_self
    have hu := e3.tm_adr (v := u) (a := a) (List.mem_cons_of_mem _ List.mem_cons_self)
    subst hy hu
    obtain ⟨F, g, ef, xs, hx, rx⟩ := e3.cellAt hj
    have hvd := ef.tm (v, .val d) (List.mem_cons_of_mem _ (List.mem_cons_of_mem _ List.mem_cons_self))
    refine ⟨a, _, rfl, .inl ⟨xs, .inr s, hx, rfl, ?_, rfl⟩, k _ _ ⟨F, g, ?_⟩⟩
    · rw [(rpk_pt.mp rx).len]
      exact Nat.lt_of_lt_of_le hz (by decide : 100000 ≤ sizeLine)
    · exact (ef.write (o := .dK (putK xs (.inr s) v)) (n' := .dic (putT ds (.inr s) d)) hj ⟨_, upd_same, rpk_pt.mpr ((rpk_pt.mp rx).put (.inr s) hvd)⟩).held fun p hp => List.mem_cons_of_mem _ (List.mem_cons_of_mem _ (List.mem_cons_of_mem _ hp))
theorem q_dput {s : Str} {d : D} {j : Nat} (hv : EvD K tv ro ka (.val d) k1) (ho : EvD K td ro k1 (.val (.adr a)) k2) (hi : EvD K ty ro k2 (.val (.str s)) k3) (hj : k3[j]? = some (a, .dic ds)) (hz : ds.length < 100000)
    (k : Gp K B F0 ta (u De) ro (k3.set j (a, .dic (putT ds (.inr s) d)))) : Gp K B F0 ta (tSeq (sDPut td ty tv) u De) ro ka := g_dput (De := { De with nx := u De }) hv ho hi hj hz k
/-- {} -/
theorem evn_dnew : EvN K tDNewK ro ka (.dic []) ka := fun B F0 ta sg H Q e q => fun p hp => by
  obtain ⟨F, g, e⟩ := e
  exact q p _ ⟨F, g, e.cell (o := .dK []) hp (n := .dic []) ⟨[], upd_same, rfl⟩⟩
/-- {text: v} -/
theorem evn_disp1 {s : Str} {d : D} (hk : EvD K tk ro ka (.val (.str s)) k1) (hv : EvD K tv ro k1 (.val d) k2) : EvN K (tDisp [(tk, tv)]) ro ka (.dic [(.inr s, d)]) k2 := fun B F0 ta sg H Q e q => fun p hp => by
  obtain ⟨F, g, e⟩ := e
  have e1 : En K B F0 ro (ka ++ [(p, .dic [])]) ta sg (upd H p (.dK [])) := ⟨F, g, e.cell (o := .dK []) hp (n := .dic []) ⟨[], upd_same, rfl⟩⟩
  refine hk.fr [(p, .dic [])] B F0 ta sg _ _ e1 fun x H1 e2 => ?_
  have hx := e2.tm_str (v := x) (i := s) List.mem_cons_self
  subst hx
  refine hv.fr [(p, .dic [])] B F0 _ sg _ _ e2 fun y H2 e3 => ?_
  have hj : (k2 ++ [(p, Nd.dic [])])[k2.length]? = some (p, Nd.dic []) := by simp
  obtain ⟨F2, g2, ef, xs, hx2, rx⟩ := e3.cellAt hj
  obtain rfl : xs = [] := rx
  have hvd := ef.tm (y, .val d) List.mem_cons_self
  refine ⟨hx2, [(.inr s, y)], rfl, (by show 1 ≤ 15; decide), q p _ ⟨F2, g2, ?_⟩⟩
  have e4 := ef.write (o := .dK [(.inr s, y)]) (n' := .dic [(.inr s, d)]) hj ⟨_, upd_same, ⟨y, [], rfl, hvd, rfl⟩⟩
  rw [List.set_append_right _ _ (Nat.le_refl _), Nat.sub_self] at e4
  exact e4.held fun p hp => List.mem_cons_of_mem _ (List.mem_cons_of_mem _ hp)

/-! ### a frozen dict is walked -/
/-- what stands at a path of fields stays the same while things are locked -/
def EvP (K : PySem.W.Frag) (te : TE) (ro : Ro) (w : W) : Prop := ∀ B F ka ta sg H, EnF K B F ro ka ta sg H → ∃ v, WOk K B F v w ∧ ∀ H' (Q : VK), (∀ a u, H a = some u → lk u = false → H' a = some u) → Q v H' → te sg H' Q
theorem evp_var {i : Nat} (h : ro[i]? = some (some w)) : EvP K (tVar i) ro w := fun B F ka ta sg H e => by
  obtain ⟨v, h1, h2⟩ := e.sl i w h
  exact ⟨v, h2, fun H' Q _ q => ⟨v, h1, q⟩⟩
theorem evp_fld {f : Str} {d : D} {fs : List (Str × D)} (h : EvP K te ro (.val (.ins C fs))) (c : Cls K C) (nf : NoAttr K C f) (hd : fs.lookup f = some d) : EvP K (tFld K te f) ro (.val d) := fun B F ka ta sg H e => by
  obtain ⟨v, h1, h2⟩ := h B F ka ta sg H e
  obtain ⟨a, dx, xs, rfl, h3, h4⟩ := h1
  obtain ⟨x, hx, rx⟩ := rpf_lookup h4 hd
  have h5 := rd_ins e.nz e.fz h3
  exact ⟨x, rx, fun H' Q hH q => h2 H' _ hH ⟨a, C, dx, xs, x, rfl, hH a _ h5 rfl, c, nf, hx, q⟩⟩
theorem uni_upd {o : Obj} {u : HO} (hl : lk u = true) (h : F a = some u ∨ B a = some u) : uni (upd B a (.frz o u)) F = uni B F := by
  funext c
  unfold uni
  cases q : F c with
  | some x => rfl
  | none =>
    by_cases hc : c = a
    · subst hc
      rw [upd_same]
      rcases h with h | h
      · rw [h] at q; cases q
      · rw [h]
        simp only [hl, if_true]
        cases u <;> first | rfl | cases hl
    · rw [upd_ne hc]
/-- a frozen thing is locked for a while -/
theorem EnF.lockF {o : Obj} {u : HO} (e : EnF K B F ro ka ta sg H) (hF : F a = some u) (hl : lk u = true) (hH : H a = some u ∨ H a = some (.frz o u)) : EnF K (upd B a (.frz o u)) F ro ka ta sg (upd H a (.frz o u)) := by
  have wk : ∀ {v : V} {w : W}, WOk K B F v w → WOk K (upd B a (.frz o u)) F v w := fun {v w} h => by
    cases w with
    | val d => exact h
    | vw d =>
      show Rp K (uni (upd B a (.frz o u)) F) d v
      rw [uni_upd hl (.inl hF)]
      exact h
  refine ⟨e.nz, fun c x h => ?_, fun c x h => ?_, e.nd, fun p hp => ?_, e.ln, fun i w h => ?_, fun p hp => wk (e.tm p hp)⟩
  · by_cases hc : c = a
    · subst hc
      rw [hF] at h
      cases h
      exact .inr ⟨hl, o, upd_same⟩
    · rcases e.fz c x h with q | ⟨q1, q2, q3⟩
      · exact .inl (by rw [upd_ne hc]; exact q)
      · exact .inr ⟨q1, q2, by rw [upd_ne hc]; exact q3⟩
  · by_cases hc : c = a
    · subst hc; rw [upd_same] at h ⊢; exact h
    · rw [upd_ne hc] at h ⊢; exact e.fr c x h
  · obtain ⟨h1, h2, h3⟩ := e.ce p hp
    have hc : p.1 ≠ a := fun z => by rw [z, hF] at h1; cases h1
    exact ⟨h1, by rw [upd_ne hc]; exact h2, ndok_at (upd_ne hc) h3⟩
  · obtain ⟨v, h1, h2⟩ := e.sl i w h
    exact ⟨v, h1, wk h2⟩
/-- .. and back: B stands as before -/
theorem EnF.unlockF {o : Obj} {u : HO} (e : EnF K (upd B a (.frz o u)) F ro ka ta sg H) (hF : F a = some u) (hl : lk u = true) {x : HO} (hx : x = u ∨ x = .frz o u) (hB : ∀ y, B a = some y → y = x) : EnF K B F ro ka ta sg (upd H a x) := by
  have wk : ∀ {v : V} {w : W}, WOk K (upd B a (.frz o u)) F v w → WOk K B F v w := fun {v w} h => by
    cases w with
    | val d => exact h
    | vw d =>
      have h' : Rp K (uni (upd B a (.frz o u)) F) d v := h
      rw [uni_upd hl (.inl hF)] at h'
      exact h'
  refine ⟨e.nz, fun c y h => ?_, fun c y h => ?_, e.nd, fun p hp => ?_, e.ln, fun i w h => ?_, fun p hp => wk (e.tm p hp)⟩
  · by_cases hc : c = a
    · subst hc
      rw [hF] at h
      cases h
      rcases hx with rfl | rfl
      · exact .inl upd_same
      · exact .inr ⟨hl, o, upd_same⟩
    · rcases e.fz c y h with q | ⟨q1, q2, q3⟩
      · exact .inl (by rw [upd_ne hc]; exact q)
      · exact .inr ⟨q1, q2, by rw [upd_ne hc]; exact q3⟩
  · by_cases hc : c = a
    · subst hc; rw [upd_same, hB y h]
    · rw [upd_ne hc]; exact e.fr c y (by rw [upd_ne hc]; exact h)
  · obtain ⟨h1, h2, h3⟩ := e.ce p hp
    have hc : p.1 ≠ a := fun z => by rw [z, hF] at h1; cases h1
    rw [upd_ne hc] at h2
    exact ⟨h1, h2, ndok_at (upd_ne hc) h3⟩
  · obtain ⟨v, h1, h2⟩ := e.sl i w h
    exact ⟨v, h1, wk h2⟩
end
end DL

/-! EB: loops and comprehensions over frozen dicts (own work). -/
namespace DL
open PySem L2 PySem.W
def tLkS (t : TS) : TS := fun D σ H => t D σ H ∨ tLock t D σ H
def tLkE (t : TE) : TE := fun σ H Q => t σ H Q ∨ tLockE t σ H Q
theorem ps_lkS {X : Cx} {st : Stmt} {t : TS} (h : PS X st t) : PS X st (tLkS t) := ⟨fun pins s σ H D I q => q.elim (h.run pins s σ H D I) ((ps_lock h).run pins s σ H D I)⟩
theorem pe_lkE {X : Cx} {e : Expr} {t : TE} (h : PE X e t) : PE X e (tLkE t) := ⟨fun pins s σ H Q I q => q.elim (h.run pins s σ H Q I) ((pe_lock h).run pins s σ H Q I)⟩
/-- what is walked, at one state -/
def EvIat (K : PySem.W.Frag) (B F0 : Hp) (wi : TI) (ro : Ro) (ws : List W) (C : Cells → Prop) (ka' : Cells) (ta : List (V × W)) (sg : L2.St) (H : Hp) : Prop := ∀ (R : It → Hp → Prop),
  (∀ J ta' H', (∀ p ∈ ta, p ∈ ta') → En K B F0 ro ka' ta' sg H' →
    (∀ i w ro2 ka2 ta2 sg2 H2, ws[i]? = some w → C ka2 → (∀ p ∈ ta', p ∈ ta2) → En K B F0 ro2 ka2 ta2 sg2 H2 → J.go i H2 ∧ ∀ x H3, J.yld i H2 x H3 → En K B F0 ro2 ka2 ((x, w) :: ta2) sg2 H3) →
    (∀ i ro2 ka2 ta2 sg2 H2, ws.length ≤ i → C ka2 → (∀ p ∈ ta', p ∈ ta2) → En K B F0 ro2 ka2 ta2 sg2 H2 → J.stop i H2) → R J H') → wi sg H R
section
variable {K : PySem.W.Frag} {B F F0 : Hp} {ro : Ro} {ka k1 k2 k3 kr : Cells} {ta : List (V × W)} {sg : L2.St} {H H' : Hp} {te tf tg tk tv : TE} {tr : TA} {tt tu : TT} {w x y z : W} {n m : Nd} {C dx a : Addr} {b : Bool} {P : L2.St → Hp → Prop} {De : Ends} {t u : TS} {E : XK}
theorem lc_at {wi : TI} {ws : List W} {C : Cells → Prop} {j : Nat} {vs : List Nat} {Q : VK} (e : En K B F0 ro ka ta sg H) (h : EvIat K B F0 wi ro ws C k1 ta sg H) (hj : j ∈ vs) (hn : ws.length ≤ 1000000) (Inv : Nat → List D → Cells → Prop) (h0 : Inv 0 [] k1) (hC : ∀ i acc k, Inv i acc k → C k ∧ ∀ x, C (k ++ [x]))
    (hs : ∀ i w acc k, ws[i]? = some w → Inv i acc k → (∃ k2, EvT K tt ((wipeR ro vs).set j (some w)) k false k2 ∧ Inv (i + 1) acc k2) ∨ ∃ k2 k3 d, EvT K tt ((wipeR ro vs).set j (some w)) k true k2 ∧ EvD K te ((wipeR ro vs).set j (some w)) k2 (.val d) k3 ∧ Inv (i + 1) (acc ++ [d]) k3)
    (q : ∀ n k a H', (∃ acc, n = .lst acc ∧ Inv ws.length acc k) → En K B F0 ro (k ++ [(a, n)]) ta sg H' → Q (.ref a) H') : tLc wi (gName j) tt te vs sg H Q :=
  h _ fun J ta' H1 hta e1 hgo hst => fun Dl hD => by
    -- the word: the list so far is the last cell
    let P : Nat → Hp → Prop := fun i H => ∃ acc k, Inv i acc k ∧ acc.length ≤ i ∧ En K B F0 ro (k ++ [(Dl, .lst acc)]) ta' sg H
    have p0 : P 0 (upd H1 Dl (.lst [])) := by
      obtain ⟨F, g, e1⟩ := e1
      exact ⟨[], k1, h0, Nat.le_refl _, F, g, e1.cell (o := .lst []) hD (n := .lst []) ⟨[], upd_same, rfl⟩⟩
    refine ⟨fun i m H => m = ws.length - i ∧ i ≤ ws.length ∧ P i H, ⟨ws.length, by simp, Nat.zero_le _, p0⟩, ?_⟩
    rintro i m H2 ⟨rfl, hi, acc, k, inv, hlen, e2⟩
    by_cases hlt : i < ws.length
    · have hw := List.getElem?_eq_getElem hlt
      obtain ⟨g1, g2⟩ := hgo i ws[i] ro (k ++ [(Dl, .lst acc)]) ta' sg H2 hw ((hC i acc k inv).2 _) (fun p hp => hp) e2
      refine .inr ⟨g1, P (i + 1), fun H' p => ⟨ws.length - (i + 1), by omega, rfl, hlt, p⟩, fun x H3 y => ?_⟩
      have e3 := g2 x H3 y
      refine ⟨wipe_set sg vs hj x, ?_⟩
      -- within the block
      have e4 : En K B F0 ((wipeR ro vs).set j (some ws[i])) (k ++ [(Dl, .lst acc)]) ta' ((wipe sg vs).set j (some x)) H3 := by
        obtain ⟨F, g, e3⟩ := e3
        exact ⟨F, g, ((wipe_en (vs := vs) e3).set (e3.tm _ List.mem_cons_self) j).held fun p hp => List.mem_cons_of_mem _ hp⟩
      -- and back out of it
      have out : ∀ {k : Cells} {ta2 : List (V × W)} {H : Hp}, (∃ F, Gr B F0 F ∧ EnF K B F ((wipeR ro vs).set j (some ws[i])) k ta2 ((wipe sg vs).set j (some x)) H ∧ ∀ (a : Nat) w, ro[a]? = some (some w) → ∃ v, sg[a]? = some (some v) ∧ WOk K B F v w) → En K B F0 ro k ta2 sg H := fun ⟨F, g, q, hs⟩ => ⟨F, g, q.frame (by obtain ⟨_, _, e0⟩ := e; exact e0.ln) hs⟩
      obtain ⟨F3, gF3, eF3⟩ := e3
      have slots : ∀ {F : Hp}, Gr B F3 F → ∀ (a : Nat) w, ro[a]? = some (some w) → ∃ v, sg[a]? = some (some v) ∧ WOk K B F v w := fun {F} g a w ha => by
        obtain ⟨v, h1, h2⟩ := eF3.sl a w ha
        exact ⟨v, h1, wok_gr eF3.nz g h2⟩
      have e4' : En K B F3 ((wipeR ro vs).set j (some ws[i])) (k ++ [(Dl, .lst acc)]) ta' ((wipe sg vs).set j (some x)) H3 :=
        ⟨F3, Gr.refl _ _, ((wipe_en (vs := vs) eF3).set (eF3.tm _ List.mem_cons_self) j).held fun p hp => List.mem_cons_of_mem _ hp⟩
      rcases hs i ws[i] acc k hw inv with ⟨k2, t1, inv2⟩ | ⟨k2, k3, d, t1, t2, inv2⟩
      · refine t1.fr [(Dl, .lst acc)] B F3 ta' _ H3 _ e4' fun H4 ⟨F4, g4, e5⟩ => ?_
        exact ⟨acc, k2, inv2, Nat.le_succ_of_le hlen, out ⟨F4, gF3.trans g4, e5, slots g4⟩⟩
      · refine t1.fr [(Dl, .lst acc)] B F3 ta' _ H3 _ e4' fun H4 e5 => ?_
        refine t2.fr [(Dl, .lst acc)] B F3 ta' _ H4 _ e5 fun v H5 ⟨F5, g5, e6⟩ => ?_
        have hx : (k3 ++ [(Dl, Nd.lst acc)])[k3.length]? = some (Dl, Nd.lst acc) := by simp
        obtain ⟨xs, h1, h2⟩ := e6.rd_lst hx
        have hv := e6.tm _ List.mem_cons_self
        have e7 := e6.write (o := .lst (xs ++ [v])) (n' := .lst (acc ++ [d])) hx ⟨_, upd_same, rpl_app h2 ⟨v, [], rfl, hv, rfl⟩⟩
        have hset : (k3 ++ [(Dl, Nd.lst acc)]).set k3.length (Dl, Nd.lst (acc ++ [d])) = k3 ++ [(Dl, Nd.lst (acc ++ [d]))] := by
          rw [List.set_append_right _ _ (Nat.le_refl _)]
          simp
        rw [hset] at e7
        refine ⟨xs, h1, by rw [rpl_len h2]; exact Nat.lt_of_le_of_lt (Nat.le_trans hlen (Nat.le_trans hi hn)) (by decide), acc ++ [d], k3, inv2, by rw [List.length_append]; exact Nat.succ_le_succ hlen, ?_⟩
        exact out ⟨F5, gF3.trans g5, e7.held fun p hp => List.mem_cons_of_mem _ hp, slots g5⟩
    · have ei : i = ws.length := by omega
      subst ei
      refine .inl ⟨hst _ ro (k ++ [(Dl, .lst acc)]) ta' sg H2 (Nat.le_refl _) ((hC _ acc k inv).2 _) (fun p hp => hp) e2, ?_⟩
      exact q _ _ Dl H2 ⟨acc, rfl, inv⟩ (e2.held hta)
theorem dc_at {wi : TI} {ws : List W} {C : Cells → Prop} {j : Nat} {vs : List Nat} {Q : VK} (e : En K B F0 ro ka ta sg H) (h : EvIat K B F0 wi ro ws C k1 ta sg H) (hj : j ∈ vs) (hn : ws.length ≤ 1000000) (Inv : Nat → List (Key × D) → Cells → Prop) (h0 : Inv 0 [] k1) (hC : ∀ i acc k, Inv i acc k → C k ∧ ∀ x, C (k ++ [x]))
    (hs : ∀ i w acc k, ws[i]? = some w → Inv i acc k → (∃ k2, EvT K tt ((wipeR ro vs).set j (some w)) k false k2 ∧ Inv (i + 1) acc k2) ∨ ∃ k2 k3 k4 c d, EvT K tt ((wipeR ro vs).set j (some w)) k true k2 ∧ EvD K tk ((wipeR ro vs).set j (some w)) k2 (.val (kD c)) k3 ∧ EvD K tv ((wipeR ro vs).set j (some w)) k3 (.val d) k4 ∧ Inv (i + 1) (putT acc c d) k4)
    (q : ∀ n k a H', (∃ acc, n = .dic acc ∧ Inv ws.length acc k) → En K B F0 ro (k ++ [(a, n)]) ta sg H' → Q (.ref a) H') : tDc wi (gName j) tt tk tv vs sg H Q :=
  h _ fun J ta' H1 hta e1 hgo hst => fun Dl hD => by
    let P : Nat → Hp → Prop := fun i H => ∃ acc k, Inv i acc k ∧ acc.length ≤ i ∧ En K B F0 ro (k ++ [(Dl, .dic acc)]) ta' sg H
    have p0 : P 0 (upd H1 Dl (.dK [])) := by
      obtain ⟨F, g, e1⟩ := e1
      exact ⟨[], k1, h0, Nat.le_refl _, F, g, e1.cell (o := .dK []) hD (n := .dic []) ⟨[], upd_same, rfl⟩⟩
    refine ⟨fun i m H => m = ws.length - i ∧ i ≤ ws.length ∧ P i H, ⟨ws.length, by simp, Nat.zero_le _, p0⟩, ?_⟩
    rintro i m H2 ⟨rfl, hi, acc, k, inv, hlen, e2⟩
    by_cases hlt : i < ws.length
    · have hw := List.getElem?_eq_getElem hlt
      obtain ⟨g1, g2⟩ := hgo i ws[i] ro (k ++ [(Dl, .dic acc)]) ta' sg H2 hw ((hC i acc k inv).2 _) (fun p hp => hp) e2
      refine .inr ⟨g1, P (i + 1), fun H' p => ⟨ws.length - (i + 1), by omega, rfl, hlt, p⟩, fun x H3 y => ?_⟩
      have e3 := g2 x H3 y
      refine ⟨wipe_set sg vs hj x, ?_⟩
      have out : ∀ {k : Cells} {ta2 : List (V × W)} {H : Hp}, (∃ F, Gr B F0 F ∧ EnF K B F ((wipeR ro vs).set j (some ws[i])) k ta2 ((wipe sg vs).set j (some x)) H ∧ ∀ (a : Nat) w, ro[a]? = some (some w) → ∃ v, sg[a]? = some (some v) ∧ WOk K B F v w) → En K B F0 ro k ta2 sg H := fun ⟨F, g, q, hs⟩ => ⟨F, g, q.frame (by obtain ⟨_, _, e0⟩ := e; exact e0.ln) hs⟩
      obtain ⟨F3, gF3, eF3⟩ := e3
      have slots : ∀ {F : Hp}, Gr B F3 F → ∀ (a : Nat) w, ro[a]? = some (some w) → ∃ v, sg[a]? = some (some v) ∧ WOk K B F v w := fun {F} g a w ha => by
        obtain ⟨v, h1, h2⟩ := eF3.sl a w ha
        exact ⟨v, h1, wok_gr eF3.nz g h2⟩
      have e4' : En K B F3 ((wipeR ro vs).set j (some ws[i])) (k ++ [(Dl, .dic acc)]) ta' ((wipe sg vs).set j (some x)) H3 :=
        ⟨F3, Gr.refl _ _, ((wipe_en (vs := vs) eF3).set (eF3.tm _ List.mem_cons_self) j).held fun p hp => List.mem_cons_of_mem _ hp⟩
      rcases hs i ws[i] acc k hw inv with ⟨k2, t1, inv2⟩ | ⟨k2, k3, k4, c, d, t1, t2, t3, inv2⟩
      · refine t1.fr [(Dl, .dic acc)] B F3 ta' _ H3 _ e4' fun H4 ⟨F4, g4, e5⟩ => ?_
        exact ⟨acc, k2, inv2, Nat.le_succ_of_le hlen, out ⟨F4, gF3.trans g4, e5, slots g4⟩⟩
      · refine t1.fr [(Dl, .dic acc)] B F3 ta' _ H3 _ e4' fun H4 e5 => ?_
        refine t2.fr [(Dl, .dic acc)] B F3 ta' _ H4 _ e5 fun u H5 e6 => ?_
        have hu := e6.tm_key (v := u) (k := c) List.mem_cons_self
        refine t3.fr [(Dl, .dic acc)] B F3 _ _ H5 _ e6 fun v H6 ⟨F5, g5, e7⟩ => ?_
        have hx : (k4 ++ [(Dl, Nd.dic acc)])[k4.length]? = some (Dl, Nd.dic acc) := by simp
        obtain ⟨xs, h1, h2⟩ := (e7.ce _ (List.mem_of_getElem? hx)).2.2
        have hv := e7.tm _ List.mem_cons_self
        have e8 := e7.write (o := .dK (putK xs c v)) (n' := .dic (putT acc c d)) hx ⟨_, upd_same, rpk_pt.mpr ((rpk_pt.mp h2).put c hv)⟩
        have hset : (k4 ++ [(Dl, Nd.dic acc)]).set k4.length (Dl, Nd.dic (putT acc c d)) = k4 ++ [(Dl, Nd.dic (putT acc c d))] := by
          rw [List.set_append_right _ _ (Nat.le_refl _)]
          simp
        rw [hset] at e8
        refine ⟨xs, c, hu, h1, by rw [(rpk_pt.mp h2).len]; exact Nat.lt_of_le_of_lt (Nat.le_trans hlen (Nat.le_trans hi hn)) (by decide), putT acc c d, k4, inv2, Nat.le_trans (putT_len _ _ _) (Nat.succ_le_succ hlen), ?_⟩
        exact out ⟨F5, gF3.trans g5, e8.held fun p hp => List.mem_cons_of_mem _ (List.mem_cons_of_mem _ hp), slots g5⟩
    · have ei : i = ws.length := by omega
      subst ei
      refine .inl ⟨hst _ ro (k ++ [(Dl, .dic acc)]) ta' sg H2 (Nat.le_refl _) ((hC _ acc k inv).2 _) (fun p hp => hp) e2, ?_⟩
      exact q _ _ Dl H2 ⟨acc, rfl, inv⟩ (e2.held hta)


theorem keys_of {ds : List (Key × D)} {xs : List (Key × V)} (h : RpK K F ds xs) : xs.map (·.1) = ds.map (·.1) := by
  induction ds generalizing xs with
  | nil => rw [show xs = [] from h]; rfl
  | cons p ds ih =>
    obtain ⟨k, d⟩ := p
    obtain ⟨x, ys, rfl, _, h2⟩ := h
    rw [List.map_cons, List.map_cons, ih h2]
/-- the keys of a locked dict, at one state -/
theorem ei_at {ds : List (Key × D)} {o : Obj} {xs : List (Key × V)} (e : En K B F0 ro ka ta sg H) (hB : B a = some (.frz o (.dK xs))) (hk : xs.map (·.1) = ds.map (·.1)) (hte : ∀ Q : VK, Q (.ref a) H → te sg H Q) :
    EvIat K B F0 (iKeys te) ro (ds.map fun kv => W.val (kD kv.1)) (fun _ => True) ka ta sg H := fun R q => hte _ ⟨a, o, rfl, .inl ⟨xs, (let ⟨_, _, ef⟩ := e; ef.fr _ _ hB), q _ ta H (fun p hp => hp) e (fun i w2 ro2 ka2 ta2 sg2 H2 hw _ _ e2 => by
    have hl : H2 a = some (.frz o (.dK xs)) := let ⟨_, _, ef⟩ := e2; ef.fr _ _ hB
    rw [List.getElem?_map] at hw
    obtain ⟨p, hp, rfl⟩ := Option.map_eq_some_iff.mp hw
    have h1 : (xs.map (·.1))[i]? = some p.1 := by rw [hk, List.getElem?_map, hp]; rfl
    rw [List.getElem?_map] at h1
    obtain ⟨y, hy, hy2⟩ := Option.map_eq_some_iff.mp h1
    refine ⟨⟨hl, (List.getElem?_eq_some_iff.mp hy).1⟩, fun x H3 ⟨e3, k, v, h2, h3⟩ => ?_⟩
    subst e3 h3
    rw [hy] at h2
    cases h2
    obtain ⟨pk, pd⟩ := p
    cases hy2
    exact e2.push_imm fun F => by cases k <;> rfl) fun i ro2 ka2 ta2 sg2 H2 hi _ _ e2 => by
    have hl : H2 a = some (.frz o (.dK xs)) := let ⟨_, _, ef⟩ := e2; ef.fr _ _ hB
    refine ⟨hl, ?_⟩
    have : xs.length = ds.length := by have := congrArg List.length hk; rwa [List.length_map, List.length_map] at this
    rw [this]
    rwa [List.length_map] at hi⟩⟩
theorem Gr.unB {B' F' : Hp} (h : Gr B' F F') (hs : ∀ c, B c ≠ none → B' c ≠ none) : Gr B F F' := ⟨h.sub, fun c h1 h2 => h.off c h1 (hs c h2)⟩
theorem upd_id {o : HO} (h : H a = some o) : upd H a o = H := by
  funext c
  unfold upd
  split
  · rename_i q; rw [q, h]
  · rfl
/-- a frozen dict is locked: what holds then, and the way back -/
theorem En.lockD {ds : List (Key × D)} (e : En K B F0 ro ka ta sg H) (hp : EvP K te ro (.val (.dic ds))) : ∃ (F : Hp) (a : Addr) (xs : List (Key × V)), Gr B F0 F ∧ F a = some (.dK xs) ∧ xs.map (·.1) = ds.map (·.1) ∧
    (H a = some (.dK xs) ∨ ∃ o, H a = some (.frz o (.dK xs))) ∧ (∀ y, B a = some y → H a = some y) ∧
    (∀ o, (∀ o', H a = some (.frz o' (.dK xs)) → o' = o) → En K (upd B a (.frz o (.dK xs))) F ro ka ta sg (upd H a (.frz o (.dK xs))) ∧ ∀ Q : VK, Q (.ref a) (upd H a (.frz o (.dK xs))) → te sg (upd H a (.frz o (.dK xs))) Q) := by
  obtain ⟨F, g, ef⟩ := e
  obtain ⟨v, h1, h2⟩ := hp B F ka ta sg H ef
  obtain ⟨a, xs, rfl, h3, h4⟩ := h1
  have hF : F a = some (.dK xs) := by
    rcases h3 with h3 | ⟨o, h3⟩
    · exact h3
    · have := ef.nz a _ h3; cases this
  have hH : H a = some (.dK xs) ∨ ∃ o, H a = some (.frz o (.dK xs)) := (ef.fz a _ hF).imp id fun z => z.2
  refine ⟨F, a, xs, g, hF, keys_of h4, hH, fun y hy => ef.fr _ _ hy, fun o ho => ?_⟩
  have hH2 : H a = some (.dK xs) ∨ H a = some (.frz o (.dK xs)) := hH.imp id fun ⟨o', z⟩ => by rw [← ho o' z]; exact z
  refine ⟨⟨F, Gr.refl _ _, ef.lockF hF rfl hH2⟩, fun Q q => h2 _ Q (fun c u hc hl => ?_) q⟩
  by_cases e : c = a
  · subst e
    rcases hH2 with z | z
    · rw [z] at hc; cases hc; cases hl
    · rw [z] at hc; cases hc; exact upd_same
  · rw [upd_ne e]; exact hc
theorem En.unlockD {o : Obj} {xs : List (Key × V)} {y : HO} (e : En K (upd B a (.frz o (.dK xs))) F ro ka ta sg H) (g : Gr B F0 F) (hF : F a = some (.dK xs)) (hx : y = .dK xs ∨ y = .frz o (.dK xs)) (hB : ∀ z, B a = some z → z = y) : En K B F0 ro ka ta sg (upd H a y) := by
  obtain ⟨F2, g2, ef⟩ := e
  have g3 : Gr B F F2 := Gr.unB g2 fun c hc => by
    by_cases e : c = a
    · subst e; rw [upd_same]; exact fun z => by cases z
    · rw [upd_ne e]; exact hc
  exact ⟨F2, g.trans g3, ef.unlockF (g2.sub _ _ hF) rfl hx hB⟩
/-- for k in d, d frozen -/
theorem g_forK {ds : List (Key × D)} {g : TG} {tb : TS} (hp : EvP K te ro (.val (.dic ds))) (Inv : Nat → Ro → Cells → Prop) (InvB : Ro → Cells → Prop) (h0 : Inv 0 ro ka)
    (hs : ∀ B' F1 rt' bk' ta', (∀ out, RtOk K B F0 out De.rt → RtOk K B' F1 out rt') → (∀ ro2 ka2, InvB ro2 ka2 → Gp K B' F1 ta' bk' ro2 ka2) → ∀ i kv ro2 ka2, ds[i]? = some kv → Inv i ro2 ka2 → ∃ ro3, AsT K g (.val (kD kv.1)) ro2 ro3 ∧
      Gp K B' F1 ta' (tb ⟨Jp K B' F1 ta' (Inv (i + 1)), rt', bk', Jp K B' F1 ta' (Inv (i + 1))⟩) ro3 ka2)
    (hd : ∀ ro2 ka2, (Inv ds.length ro2 ka2 ∨ InvB ro2 ka2) → Gp K B F0 ta De.nx ro2 ka2) : Gp K B F0 ta (tLkS (tFor (iKeys te) g tb) De) ro ka := fun sg H e => by
  obtain ⟨F, a, xs, gr, hF, hk, hH, hBH, lock⟩ := e.lockD hp
  -- the loop itself, between the lock and the way back
  have core : ∀ (o : Obj) (y : HO) (De' : Ends), (∀ o', H a = some (.frz o' (.dK xs)) → o' = o) → (y = .dK xs ∨ y = .frz o (.dK xs)) → (∀ z, B a = some z → z = y) →
      (∀ sg' H', H' a = some (.frz o (.dK xs)) → De.nx sg' (upd H' a y) → De'.nx sg' H') → (∀ v H', H' a = some (.frz o (.dK xs)) → De.rt v (upd H' a y) → De'.rt v H') → tFor (iKeys te) g tb De' sg (upd H a (.frz o (.dK xs))) := by
    intro o y De' ho hy hBy hnx hrt
    obtain ⟨e1, hte⟩ := lock o ho
    have hB1 : upd B a (.frz o (.dK xs)) a = some (.frz o (.dK xs)) := upd_same
    have fin : ∀ ro2 ka2 sg2 H2, (Inv ds.length ro2 ka2 ∨ InvB ro2 ka2) → En K (upd B a (.frz o (.dK xs))) F ro2 ka2 ta sg2 H2 → De'.nx sg2 H2 := fun ro2 ka2 sg2 H2 i e2 =>
      hnx sg2 H2 (let ⟨_, _, ef⟩ := e2; ef.fr _ _ hB1) (hd ro2 ka2 i _ _ (e2.unlockD gr hF hy hBy))
    have rt' : ∀ out, RtOk K B F0 out De.rt → RtOk K (upd B a (.frz o (.dK xs))) F out De'.rt := fun out h d ka v H' o' e2 =>
      hrt v H' (let ⟨_, _, ef⟩ := e2; ef.fr _ _ hB1) (h d ka v _ o' (e2.unlockD gr hF hy hBy))
    refine ei_at (ds := ds) e1 hB1 hk hte _ fun J ta' H1 hta e2 hgo hst => ?_
    refine ⟨fun i m sg H => m = ds.length - i ∧ i ≤ ds.length ∧ Jp K (upd B a (.frz o (.dK xs))) F ta' (Inv i) sg H, ⟨ds.length, by simp, Nat.zero_le _, ro, ka, h0, e2⟩, ?_⟩
    rintro i m sg2 H2 ⟨rfl, hi, ro2, ka2, inv, e3⟩
    by_cases hlt : i < ds.length
    · have hw : (ds.map fun kv => W.val (kD kv.1))[i]? = some (W.val (kD ds[i].1)) := by rw [List.getElem?_map, List.getElem?_eq_getElem hlt]; rfl
      obtain ⟨g1, g2⟩ := hgo i _ ro2 ka2 ta' sg2 H2 hw trivial (fun p hp => hp) e3
      refine .inr ⟨g1, Jp K (upd B a (.frz o (.dK xs))) F ta' (Inv (i + 1)), fun sg' H' q => ⟨ds.length - (i + 1), by omega, rfl, hlt, q⟩, fun x H3 y3 => ?_⟩
      have e4 := g2 x H3 y3
      obtain ⟨ro3, ast, gp⟩ := hs _ F De'.rt De'.nx ta' rt' (fun ro4 ka4 ib sg4 H4 e5 => fin ro4 ka4 sg4 H4 (.inr ib) (e5.held hta)) i ds[i] ro2 ka2 (List.getElem?_eq_getElem hlt) inv
      exact ast _ F ka2 _ sg2 H3 x _ e4 List.mem_cons_self fun sg' e' => gp _ _ e'.pop
    · have ei : i = ds.length := by omega
      subst ei
      exact .inl ⟨hst _ ro2 ka2 ta' sg2 H2 (by rw [List.length_map]; exact Nat.le_refl _) trivial (fun p hp => hp) e3, fin ro2 ka2 sg2 H2 (.inl inv) (e3.held hta)⟩
  rcases hH with hH | ⟨o, hH⟩
  · refine .inr ⟨a, .dK xs, hH, trivial, fun o => ?_⟩
    exact core o (.dK xs) _ (fun o' z => by rw [hH] at z; cases z) (.inl rfl) (fun z hz => by have := hBH z hz; rw [hH] at this; cases this; rfl) (fun sg' H' h1 h2 => ⟨h1, h2⟩) fun v H' h1 h2 => ⟨h1, h2⟩
  · refine .inl ?_
    have := core o (.frz o (.dK xs)) De (fun o' z => by rw [hH] at z; cases z; rfl) (.inr rfl) (fun z hz => by have := hBH z hz; rw [hH] at this; cases this; rfl) (fun sg' H' h1 h2 => by rwa [upd_id h1] at h2) fun v H' h1 h2 => by rwa [upd_id h1] at h2
    rwa [upd_id hH] at this

theorem q_forK {ds : List (Key × D)} {g : TG} {tb : TS} (hp : EvP K te ro (.val (.dic ds))) (Inv : Nat → Ro → Cells → Prop) (InvB : Ro → Cells → Prop) (h0 : Inv 0 ro ka)
    (hs : ∀ B' F1 rt' bk' ta', (∀ out, RtOk K B F0 out De.rt → RtOk K B' F1 out rt') → (∀ ro2 ka2, InvB ro2 ka2 → Gp K B' F1 ta' bk' ro2 ka2) → ∀ i kv ro2 ka2, ds[i]? = some kv → Inv i ro2 ka2 → ∃ ro3, AsT K g (.val (kD kv.1)) ro2 ro3 ∧
      Gp K B' F1 ta' (tb ⟨Jp K B' F1 ta' (Inv (i + 1)), rt', bk', Jp K B' F1 ta' (Inv (i + 1))⟩) ro3 ka2)
    (hd : ∀ ro2 ka2, (Inv ds.length ro2 ka2 ∨ InvB ro2 ka2) → Gp K B F0 ta (u De) ro2 ka2) : Gp K B F0 ta (tSeq (tLkS (tFor (iKeys te) g tb)) u De) ro ka := g_forK (De := { De with nx := u De }) hp Inv InvB h0 hs hd
/-- what is made while a frozen dict is locked -/
theorem lkE_of {ds : List (Key × D)} {Q : VK} {t2 : TE} {R : Nd → Cells → Prop} (e : En K B F0 ro ka ta sg H) (hp : EvP K te ro (.val (.dic ds)))
    (h : ∀ (B' F1 H1 : Hp) (Q' : VK), En K B' F1 ro ka ta sg H1 → EvIat K B' F1 (iKeys te) ro (ds.map fun kv => W.val (kD kv.1)) (fun _ => True) ka ta sg H1 →
      (∀ n k a H', R n k → En K B' F1 ro (k ++ [(a, n)]) ta sg H' → Q' (.ref a) H') → t2 sg H1 Q')
    (q : ∀ n k a H', R n k → En K B F0 ro (k ++ [(a, n)]) ta sg H' → Q (.ref a) H') : tLkE t2 sg H Q := by
  obtain ⟨F, a, xs, gr, hF, hk, hH, hBH, lock⟩ := e.lockD hp
  rcases hH with hH | ⟨o, hH⟩
  · refine .inr ⟨a, .dK xs, hH, trivial, fun o => ?_⟩
    obtain ⟨e1, hte⟩ := lock o fun o' z => by rw [hH] at z; cases z
    refine h _ F _ _ e1 (ei_at (ds := ds) e1 upd_same hk hte) fun n k a' H' r e2 => ?_
    exact ⟨let ⟨_, _, ef⟩ := e2; ef.fr _ _ upd_same, q n k a' _ r (e2.unlockD gr hF (.inl rfl) fun z hz => by have := hBH z hz; rw [hH] at this; cases this; rfl)⟩
  · obtain ⟨e1, hte⟩ := lock o fun o' z => by rw [hH] at z; cases z; rfl
    refine .inl ?_
    have := h _ F _ Q e1 (ei_at (ds := ds) e1 upd_same hk hte) fun n k a' H' r e2 => by
      have e3 := e2.unlockD gr hF (.inr rfl) fun z hz => by have := hBH z hz; rw [hH] at this; cases this; rfl
      have at_ : H' a = some (.frz o (.dK xs)) := let ⟨_, _, ef⟩ := e2; ef.fr _ _ upd_same
      rw [upd_id at_] at e3
      exact q n k a' H' r e3
    rwa [upd_id hH] at this
/-- [e for k in d if ..], d frozen -/
theorem evr_lcK {ds : List (Key × D)} {j : Nat} {vs : List Nat} (hp : EvP K tg ro (.val (.dic ds))) (hj : j ∈ vs) (hn : ds.length ≤ 1000000) (Inv : Nat → List D → Cells → Prop) (h0 : Inv 0 [] ka)
    (hs : ∀ (i : Nat) (kv : Key × D) acc k, ds[i]? = some kv → Inv i acc k → (∃ k2, EvT K tt ((wipeR ro vs).set j (some (.val (kD kv.1)))) k false k2 ∧ Inv (i + 1) acc k2) ∨ ∃ k2 k3 d, EvT K tt ((wipeR ro vs).set j (some (.val (kD kv.1)))) k true k2 ∧ EvD K te ((wipeR ro vs).set j (some (.val (kD kv.1)))) k2 (.val d) k3 ∧ Inv (i + 1) (acc ++ [d]) k3)
    : EvNR K (tLkE (tLc (iKeys tg) (gName j) tt te vs)) ro ka (fun n k => ∃ acc, n = .lst acc ∧ Inv ds.length acc k) := fun B F0 ta sg H Q e q =>
  lkE_of (R := fun n k => ∃ acc, n = .lst acc ∧ Inv ds.length acc k) e hp (fun B' F1 H1 Q' e1 it q' => lc_at e1 it hj (by rw [List.length_map]; exact hn) Inv h0 (fun _ _ _ _ => ⟨trivial, fun _ => trivial⟩) (fun i w acc k hw inv => by
    rw [List.getElem?_map] at hw
    obtain ⟨kv, hkv, rfl⟩ := Option.map_eq_some_iff.mp hw
    exact hs i kv acc k hkv inv) fun n k a H' r e2 => q' n k a H' (by rw [List.length_map] at r; exact r) e2) q
/-- {k: v for x in d if ..}, d frozen -/
theorem evr_dcK {ds : List (Key × D)} {j : Nat} {vs : List Nat} (hp : EvP K tg ro (.val (.dic ds))) (hj : j ∈ vs) (hn : ds.length ≤ 1000000) (Inv : Nat → List (Key × D) → Cells → Prop) (h0 : Inv 0 [] ka)
    (hs : ∀ (i : Nat) (kv : Key × D) acc k, ds[i]? = some kv → Inv i acc k → (∃ k2, EvT K tt ((wipeR ro vs).set j (some (.val (kD kv.1)))) k false k2 ∧ Inv (i + 1) acc k2) ∨ ∃ k2 k3 k4 c d, EvT K tt ((wipeR ro vs).set j (some (.val (kD kv.1)))) k true k2 ∧ EvD K tk ((wipeR ro vs).set j (some (.val (kD kv.1)))) k2 (.val (kD c)) k3 ∧ EvD K tv ((wipeR ro vs).set j (some (.val (kD kv.1)))) k3 (.val d) k4 ∧ Inv (i + 1) (putT acc c d) k4)
    : EvNR K (tLkE (tDc (iKeys tg) (gName j) tt tk tv vs)) ro ka (fun n k => ∃ acc, n = .dic acc ∧ Inv ds.length acc k) := fun B F0 ta sg H Q e q =>
  lkE_of (R := fun n k => ∃ acc, n = .dic acc ∧ Inv ds.length acc k) e hp (fun B' F1 H1 Q' e1 it q' => dc_at e1 it hj (by rw [List.length_map]; exact hn) Inv h0 (fun _ _ _ _ => ⟨trivial, fun _ => trivial⟩) (fun i w acc k hw inv => by
    rw [List.getElem?_map] at hw
    obtain ⟨kv, hkv, rfl⟩ := Option.map_eq_some_iff.mp hw
    exact hs i kv acc k hkv inv) fun n k a H' r e2 => q' n k a H' (by rw [List.length_map] at r; exact r) e2) q
end
end DL

/-! EC: defaults, objects with cells in their fields, more of dicts (own work). -/
namespace DL
open PySem L2 PySem.W

/-! ### defaults -/
/-- the def at f keeps C, its defaults written out; dvs: its defaults -/
def FnD (P : Program) (w : World) (K : PySem.W.Frag) (mg : Str → Option Value) (base : Heap) (k : Nat) (f : Addr) (ps : List Str) (dvs : List V) (C : Ct) : Prop :=
  ∃ fd, FnOk P w K mg base (L2.CX P w) k f fd ps (spC K C) ∧ ∃ ds, Vals dvs ds ∧ Binds K fd ps ds
section
variable {P : Program} {w : World} {K : PySem.W.Frag} {mg : Str → Option Value} {base : Heap} {k j : Nat} {f : Addr} {ps : List Str} {dvs : List V} {C : Ct}
noncomputable def FnD.fd (F : FnD P w K mg base k f ps dvs C) : FuncData := Classical.choose F
theorem FnD.ok (F : FnD P w K mg base k f ps dvs C) : FnOk P w K mg base (L2.CX P w) k f F.fd ps (spC K C) := (Classical.choose_spec F).1
noncomputable def FnD.ds (F : FnD P w K mg base k f ps dvs C) : List Value := Classical.choose (Classical.choose_spec F).2
theorem FnD.dv (F : FnD P w K mg base k f ps dvs C) : Vals dvs F.ds := (Classical.choose_spec (Classical.choose_spec F).2).1
theorem FnD.bn (F : FnD P w K mg base k f ps dvs C) : Binds K F.fd ps F.ds := (Classical.choose_spec (Classical.choose_spec F).2).2
theorem FnD.up (F : FnD P w K mg base j f ps dvs C) (h : j ≤ k) : FnD P w K mg base k f ps dvs C := let ⟨fd, a, b⟩ := F; ⟨fd, a.mono h, b⟩
end
/-- what stands for the defaults -/
def DvOk (K : PySem.W.Frag) (dvs : List V) (wd : List W) : Prop := dvs.length = wd.length ∧ ∀ B F p, p ∈ dvs.zip wd → WOk K B F p.1 p.2
theorem dv_nil {K : PySem.W.Frag} : DvOk K [] [] := ⟨rfl, fun _ _ _ h => by cases h⟩
theorem dv_cons {K : PySem.W.Frag} {v : V} {w : W} {dvs : List V} {wd : List W} (h : ∀ B F, WOk K B F v w) (r : DvOk K dvs wd) : DvOk K (v :: dvs) (w :: wd) := ⟨by rw [List.length_cons, List.length_cons, r.1], fun B F p hp => by
  rcases List.mem_cons.mp hp with rfl | hp
  · exact h B F
  · exact r.2 B F p hp⟩
section
variable {K : PySem.W.Frag} {B B' F F' F0 : Hp} {ro ro' : Ro} {ka k1 k2 k3 kr : Cells} {ta : List (V × W)} {sg sg' : L2.St} {H H' : Hp} {te tf tg td ty tk tv : TE} {tr : TA} {tt tu : TT} {w x y z : W} {n m : Nd} {C dx a o d : Addr} {b : Bool} {P : W → Cells → Prop} {De : Ends} {u : TS}
theorem En.more (e : En K B F0 ro ka ta sg H) {dvs : List V} {wd : List W} (h : DvOk K dvs wd) : En K B F0 ro ka (dvs.zip wd ++ ta) sg H := by
  obtain ⟨F, g, e⟩ := e
  refine ⟨F, g, { e with tm := fun p hp => ?_ }⟩
  rcases List.mem_append.mp hp with q | q
  · exact h.2 B F p q
  · exact e.tm p q
/-- C(e, ..), told by a word: __init__ may make more cells -/
theorem evr_make {Cc : Ct} {ws wd : List W} {dvs : List V} {E : XK} (ha : EvA K tr ro ka ws k1) (hd : DvOk K dvs wd)
    (hC : ∀ a, ∃ out, Cc (.val (.adr a) :: (ws ++ wd)) (k1 ++ [(a, .ins C [])]) out ∧ ∀ o k, out o k → o = .ret .non ∧ P (.val (.adr a)) k) : EvR K (tMake C (spC K Cc) dvs E tr) ro ka P := fun B F0 ta sg H Q e q =>
  ha B F0 ta sg H _ e fun vs H1 hl e1 => by
    intro x dx hx hdx hne
    obtain ⟨F, g, e1⟩ := e1
    obtain ⟨e2, g2⟩ := e1.lay (o := .own x) hdx rfl
    have hx2 : upd H1 dx (.own x) x = none := by rw [upd_ne (Ne.symm hne)]; exact hx
    have e3 := e2.cell (o := .ins C dx []) hx2 (n := .ins C []) ⟨dx, [], upd_same, rfl⟩
    obtain ⟨out, hC, ho⟩ := hC x
    have e4 : En K B F0 ro ((k1 ++ [(x, .ins C [])]) ++ []) (dvs.zip wd ++ (vs.zip ws ++ ta)) sg (upd (upd H1 dx (.own x)) x (.ins C dx [])) := by
      rw [List.append_nil]
      exact En.more ⟨_, g.trans g2, e3⟩ hd
    have hlen : (V.ref x :: (vs ++ dvs)).length = (W.val (.adr x) :: (ws ++ wd)).length := by rw [List.length_cons, List.length_cons, List.length_append, List.length_append, hl, hd.1]
    have hz : (V.ref x :: (vs ++ dvs)).zip (W.val (.adr x) :: (ws ++ wd)) = (V.ref x, W.val (.adr x)) :: (vs.zip ws ++ dvs.zip wd) := by rw [List.zip_cons_cons, List.zip_append hl]
    have e5 : En K B F0 ro ((k1 ++ [(x, .ins C [])]) ++ []) ((V.ref x :: (vs ++ dvs)).zip (W.val (.adr x) :: (ws ++ wd)) ++ ta) sg (upd (upd H1 dx (.own x)) x (.ins C dx [])) := by
      rw [hz]
      refine (e4.push_imm (v := .ref x) (w := .val (.adr x)) fun _ => rfl).held fun p hp => ?_
      rcases List.mem_cons.mp hp with rfl | hp
      · exact List.mem_cons_self
      · refine List.mem_cons_of_mem _ ?_
        rcases List.mem_append.mp hp with hp | hp
        · rcases List.mem_append.mp hp with hp | hp
          · exact List.mem_append_right _ (List.mem_append_left _ hp)
          · exact List.mem_append_left _ hp
        · exact List.mem_append_right _ (List.mem_append_right _ hp)
    refine sp_rel (kr := []) e5 hlen hC (fun o k h => ⟨_, (ho o k h).1⟩) fun d k2 v H' o e6 => ?_
    obtain ⟨he, p⟩ := ho _ _ o
    cases he
    rw [List.append_nil] at e6
    exact ⟨e6.tm_non List.mem_cons_self, q _ _ (.ref x) H' p (e6.pop.push_imm fun _ => rfl)⟩
theorem evr_ifT (h : EvT K tt ro ka true k1) (h1 : EvR K te ro k1 P) : EvR K (tIf tt te tf) ro ka P := fun B F0 ta sg H Q e q => h B F0 ta sg H _ e fun H1 e1 => h1 B F0 ta sg H1 Q e1 q
/-- o.f = e, e told by a word -/
theorem g_fldR {f : Str} (hv : EvR K tf ro ka P) (c : Cls K C) (nf : NoAttr K C f)
    (k : ∀ w k1, P w k1 → ∃ d k2 j fs, w = .val d ∧ EvD K te ro k1 (.val (.adr a)) k2 ∧ k2[j]? = some (a, .ins C fs) ∧ fs.length < 900 ∧ Gp K B F0 ta De.nx ro (k2.set j (a, .ins C (putD f d fs)))) : Gp K B F0 ta (sFld K te tf f De) ro ka := fun sg H e =>
  hv B F0 ta sg H _ e fun w k1 v H1 p e1 => by
    obtain ⟨d, k2, j, fs, rfl, ho, hj, hz, hk⟩ := k w k1 p
    refine ho B F0 _ sg H1 _ e1 fun x H2 e2 => ?_
    have hx := e2.tm_adr (v := x) (a := a) List.mem_cons_self
    subst hx
    obtain ⟨F, g, ef⟩ := e2
    obtain ⟨_, _, dx, xs, hH, rx⟩ := ef.ce _ (List.mem_of_getElem? hj)
    have vd := ef.tm (v, .val d) (List.mem_cons_of_mem _ List.mem_cons_self)
    have room : xs.length < 900 := by rw [rpf_len rx]; exact hz
    exact ⟨_, C, dx, xs, rfl, hH, c, nf, Nat.lt_trans room (by decide), hk _ _ ⟨F, g, (ef.write (o := .ins C dx (putF f v xs)) (n' := .ins C (putD f d fs)) hj ⟨dx, _, upd_same, rpf_put vd rx⟩).held fun p hp => List.mem_cons_of_mem _ (List.mem_cons_of_mem _ hp)⟩⟩
theorem q_fldR {f : Str} (hv : EvR K tf ro ka P) (c : Cls K C) (nf : NoAttr K C f)
    (k : ∀ w k1, P w k1 → ∃ d k2 j fs, w = .val d ∧ EvD K te ro k1 (.val (.adr a)) k2 ∧ k2[j]? = some (a, .ins C fs) ∧ fs.length < 900 ∧ Gp K B F0 ta (u De) ro (k2.set j (a, .ins C (putD f d fs)))) : Gp K B F0 ta (tSeq (sFld K te tf f) u De) ro ka := g_fldR (De := { De with nx := u De }) hv c nf k

/-! ### cells in fields, filled in -/
/-- what stands at a field, said otherwise -/
theorem rpf_fill {G : Hp} {x y : D} (h : ∀ u, Rp K G x u → Rp K G y u) {f : Str} : ∀ {fs : List (Str × D)} {r : List (Str × D)} {xs : List (Str × V)}, RpF K G (fs ++ (f, x) :: r) xs → RpF K G (fs ++ (f, y) :: r) xs
  | [], _, _, ⟨v, l, e, p, q⟩ => ⟨v, l, e, h v p, q⟩
  | _ :: _, _, _, ⟨v, l, e, p, q⟩ => ⟨v, l, e, p, rpf_fill h q⟩
/-- a field that holds the cell o, which is frozen by now -/
theorem En.fill {v : D} {f : Str} {j : Nat} {fs r : List (Str × D)} (e : En K B F0 ro ka ta sg H) (ho : (V.ref o, W.val v) ∈ ta) (hj : ka[j]? = some (a, .ins C (fs ++ (f, .adr o) :: r))) : En K B F0 ro (ka.set j (a, .ins C (fs ++ (f, v) :: r))) ta sg H := by
  obtain ⟨F, g, e⟩ := e
  have hv := e.tm _ ho
  refine ⟨F, g, { e with nd := ?_, ce := fun p hp => ?_ }⟩
  · rw [List.map_set]
    have same : (ka.map (·.1)).set j a = ka.map (·.1) := List.ext_getElem? fun i => by
      by_cases hij : j = i
      · subst hij
        rw [List.getElem?_set_self (by rw [List.length_map]; exact (List.getElem?_eq_some_iff.mp hj).1), List.getElem?_map, hj]
        rfl
      · rw [List.getElem?_set_ne hij]
    exact same.symm ▸ e.nd
  · rcases List.mem_or_eq_of_mem_set hp with q | rfl
    · exact e.ce p q
    · obtain ⟨h1, h2, dx, xs, h3, h4⟩ := e.ce _ (List.mem_of_getElem? hj)
      exact ⟨h1, h2, dx, xs, h3, rpf_fill (fun u hu => by rw [show u = .ref o from hu]; exact hv) h4⟩
end

section
variable {K : PySem.W.Frag} {B B' F F' F0 : Hp} {ro ro' : Ro} {ka k1 k2 k3 kr : Cells} {ta : List (V × W)} {sg sg' : L2.St} {H H' : Hp} {te tf tg td ty tk tv : TE} {tr : TA} {tt tu : TT} {w x y z : W} {n m : Nd} {C dx a o d : Addr} {b : Bool} {P : L2.St → Hp → Prop} {De : Ends} {u : TS}
/-- what a slot holds, said otherwise -/
theorem En.reslot {i : Nat} {v : D} (e : En K B F0 ro ka ta sg H) (hi : ro[i]? = some (some (.val (.adr a)))) (hv : (V.ref a, W.val v) ∈ ta) : En K B F0 (ro.set i (some (.val v))) ka ta sg H := by
  obtain ⟨F, g, e⟩ := e
  refine ⟨F, g, { e with ln := by rw [List.length_set]; exact e.ln, sl := fun j w q => ?_ }⟩
  rw [List.getElem?_set] at q
  split at q
  · rename_i hij
    subst hij
    split at q
    · cases q
      obtain ⟨x, h1, h2⟩ := e.sl _ _ hi
      obtain rfl : x = V.ref a := h2
      exact ⟨_, h1, e.tm _ hv⟩
    · cases q
  · exact e.sl j w q
/-- an own dict, frozen -/
theorem Gp.frzK {i : Nat} {ds : List (Key × D)} (hi : ro[i]? = some (some (.val (.adr a)))) (hp : (kr ++ [(a, Nd.dic ds)]).Perm ka) (h : Gp K B F0 ta P (ro.set i (some (.val (.dic ds)))) kr) : Gp K B F0 ta P ro ka := fun sg H e =>
  h sg H ((En.reslot (e.perm hp).freeze_k hi List.mem_cons_self).held fun p q => List.mem_cons_of_mem _ q)
/-- an object whose fields hold an own list and an own dict, frozen as a whole -/
theorem Gp.frzN {i : Nat} {f g : Str} {xs : List D} {ds : List (Key × D)} (hi : ro[i]? = some (some (.val (.adr a)))) (hp : (kr ++ [(a, Nd.ins C [(f, .adr o), (g, .adr d)]), (o, Nd.lst xs), (d, Nd.dic ds)]).Perm ka)
    (h : Gp K B F0 ta P (ro.set i (some (.val (.ins C [(f, .lst xs), (g, .dic ds)])))) kr) : Gp K B F0 ta P ro ka := fun sg H e => by
  have e0 : En K B F0 ro ((kr ++ [(a, Nd.ins C [(f, .adr o), (g, .adr d)]), (o, Nd.lst xs)]) ++ [(d, Nd.dic ds)]) ta sg H := by
    have := e.perm hp
    rwa [List.append_assoc]
  have e1 := e0.freeze_k
  have e2 := e1.fill (v := .dic ds) (f := g) (j := kr.length) (a := a) (C := C) (fs := [(f, .adr o)]) (r := []) List.mem_cons_self (by simp)
  have e3 : En K B F0 ro ((kr ++ [(a, Nd.ins C [(f, .adr o), (g, .dic ds)])]) ++ [(o, Nd.lst xs)]) ((V.ref d, W.val (.dic ds)) :: ta) sg H := by
    rw [List.set_append_right _ _ (Nat.le_refl _), Nat.sub_self] at e2
    rwa [List.append_assoc]
  have e4 := e3.freeze_l
  have e5 := e4.fill (v := .lst xs) (f := f) (j := kr.length) (a := a) (C := C) (fs := []) (r := [(g, .dic ds)]) List.mem_cons_self (by simp)
  rw [List.set_append_right _ _ (Nat.le_refl _), Nat.sub_self] at e5
  have e6 : En K B F0 ro kr _ sg H := En.freeze_i e5
  exact h sg H ((En.reslot e6 hi List.mem_cons_self).held fun p q => List.mem_cons_of_mem _ (List.mem_cons_of_mem _ (List.mem_cons_of_mem _ q)))
/-- a new value, its object with fields frozen as a whole -/
theorem EvR.frzN {f g : Str} {xs : List D} {ds : List (Key × D)} {R : W → Cells → Prop} (h : EvR K te ro ka R) (hR : ∀ w k, R w k → ∃ a o d, w = .val (.adr a) ∧ k = k1 ++ [(a, Nd.ins C [(f, .adr o), (g, .adr d)]), (o, Nd.lst xs), (d, Nd.dic ds)]) : EvD K te ro ka (.val (.ins C [(f, .lst xs), (g, .dic ds)])) k1 := fun B F0 ta sg H Q e q =>
  h B F0 ta sg H Q e fun w k v H' p e1 => by
    obtain ⟨a, o, d, rfl, rfl⟩ := hR w k p
    have hv := e1.tm_adr (v := v) (a := a) List.mem_cons_self
    subst hv
    have e0 : En K B F0 ro ((k1 ++ [(a, Nd.ins C [(f, .adr o), (g, .adr d)]), (o, Nd.lst xs)]) ++ [(d, Nd.dic ds)]) ta sg H' := by
      have := e1.pop
      rwa [List.append_assoc]
    have e2 := e0.freeze_k.fill (v := .dic ds) (f := g) (j := k1.length) (a := a) (C := C) (fs := [(f, .adr o)]) (r := []) List.mem_cons_self (by simp)
    have e3 : En K B F0 ro ((k1 ++ [(a, Nd.ins C [(f, .adr o), (g, .dic ds)])]) ++ [(o, Nd.lst xs)]) ((V.ref d, W.val (.dic ds)) :: ta) sg H' := by
      rw [List.set_append_right _ _ (Nat.le_refl _), Nat.sub_self] at e2
      rwa [List.append_assoc]
    have e5 := e3.freeze_l.fill (v := .lst xs) (f := f) (j := k1.length) (a := a) (C := C) (fs := []) (r := [(g, .dic ds)]) List.mem_cons_self (by simp)
    rw [List.set_append_right _ _ (Nat.le_refl _), Nat.sub_self] at e5
    exact q _ _ ((En.freeze_i e5).held fun p hp => by
      rcases List.mem_cons.mp hp with rfl | hp
      · exact List.mem_cons_self
      · exact List.mem_cons_of_mem _ (List.mem_cons_of_mem _ (List.mem_cons_of_mem _ hp)))

def mergeT (ds ms : List (Key × D)) : List (Key × D) := ms.foldl (fun acc p => putT acc p.1 p.2) ds
theorem pt_merge {R : D → V → Prop} : ∀ {ms : List (Key × D)} {ys : List (Key × V)} {ds : List (Key × D)} {xs : List (Key × V)}, PT R ms ys → PT R ds xs → PT R (mergeT ds ms) (mergeK xs ys)
  | [], ys, _, _, h, g => by
    obtain rfl : ys = [] := h
    exact g
  | (k, d) :: ms, ys0, ds, xs, h, g => by
    obtain ⟨v, ys, e, p, q⟩ := h
    rw [e]
    have r : PT R (mergeT (putT ds k d) ms) (mergeK (putT xs k v) ys) := pt_merge q (g.put k p)
    exact r
def rDUpd : V → List V → Hp → VK → Prop := fun x vs H Q => ∃ (a b : Addr) (xs ys : List (Key × V)), x = .ref a ∧ vs = [.ref b] ∧ a ≠ b ∧ H a = some (.dK xs) ∧ Rd H b (.dK ys) ∧ xs.length + ys.length ≤ sizeLine ∧ (mergeK xs ys).length ≤ sizeLine ∧ Q .non (upd H a (.dK (mergeK xs ys)))
theorem mt_dupd {X : Cx} : MtR X "dict.update" rDUpd := fun pins s σ H x vs v us Q I rx rv ⟨a, b, xs, ys, ex, ev, ne, ha, hb, hs, hm, q⟩ => by
  subst ex ev
  obtain rfl : v = Value.ref a := rx
  obtain ⟨y, rfl, ry⟩ := vals1 rv
  obtain rfl : y = Value.ref b := ry
  obtain ⟨_, sa, ps, ra, da⟩ := dk_of I.hok ha
  obtain ⟨_, sb, qs, rb, db⟩ := dk_rd I.hok hb
  have tot : ps.length + qs.length ≤ sizeLine := by rw [← ra.length, ← rb.length]; exact hs
  have act := PySem.meets_dict_update (mixKind X.prog X.w) a b ne sb
  refine call_meetsIn PySem.F.slot_dict_update da.typeIs PySem.F.entry_dict_update (PySem.F.args_dict_update_2 _ _) act ⟨ps, qs, da, db, tot, fun h' dd _ same => ?_⟩
  obtain ⟨ob, _, _, hob, _⟩ := id dd
  have J := d_write (ob := .dK (mergeK xs ys)) (t' := s.toks) I (by rw [ha]; exact True.intro) same ⟨ob, hob⟩ (dk_new hm sa (KV.merge rb ra) dd)
  exact ⟨.non, _, J, rfl, q⟩
theorem g_dupd {j : Nat} {ds ms : List (Key × D)} (ho : EvD K te ro ka (.val (.adr a)) k1) (h0 : ∃ (j0 : Nat) (ds0 : List (Key × D)), k1[j0]? = some (a, Nd.dic ds0)) (he : EvD K tf ro k1 (.val (.dic ms)) k2) (hj : k2[j]? = some (a, .dic ds)) (hz : ds.length + ms.length < 100000) (hz2 : (mergeT ds ms).length < 100000)
    (k : Gp K B F0 ta De.nx ro (k2.set j (a, .dic (mergeT ds ms)))) : Gp K B F0 ta (tDrop (tBM K "dict" rDUpd te (tCons tf tNil)) De) ro ka := fun sg H e => by
  refine ho B F0 ta sg H _ e fun u H1 e1 => ?_
  have hu := e1.tm_adr (v := u) (a := a) List.mem_cons_self
  subst hu
  obtain ⟨j0, ds0, h0⟩ := h0
  refine ⟨?_, he B F0 _ sg H1 _ e1 fun v H2 e2 => ?_⟩
  · obtain ⟨_, _, _, xs, hx, _⟩ := e1.cellAt h0
    exact .inr (.inr (.inl ⟨rfl, .inl ⟨xs, hx⟩⟩))
  · obtain ⟨F, g, ef, xs, hx, rx⟩ := e2.cellAt hj
    obtain ⟨c, ys, rfl, hc, rc⟩ := ef.tm (v, .val (.dic ms)) List.mem_cons_self
    have off := (ef.ce _ (List.mem_of_getElem? hj)).1
    have ne : a ≠ c := fun z => by
      subst z
      rcases hc with q | ⟨_, q⟩ <;> rw [show F a = none from off] at q <;> cases q
    have pm := pt_merge (rpk_pt.mp rc) (rpk_pt.mp rx)
    have big : 100000 ≤ sizeLine := by decide
    refine ⟨a, c, xs, ys, rfl, rfl, ne, hx, ef.fz.rd ef.nz hc, ?_, ?_, k _ _ ⟨F, g, ?_⟩⟩
    · rw [(rpk_pt.mp rx).len, (rpk_pt.mp rc).len]; omega
    · rw [pm.len]; omega
    · exact (ef.write (o := .dK (mergeK xs ys)) (n' := .dic (mergeT ds ms)) hj ⟨_, upd_same, rpk_pt.mpr pm⟩).held fun p hp => List.mem_cons_of_mem _ (List.mem_cons_of_mem _ hp)
theorem q_dupd {j : Nat} {ds ms : List (Key × D)} (ho : EvD K te ro ka (.val (.adr a)) k1) (h0 : ∃ (j0 : Nat) (ds0 : List (Key × D)), k1[j0]? = some (a, Nd.dic ds0)) (he : EvD K tf ro k1 (.val (.dic ms)) k2) (hj : k2[j]? = some (a, .dic ds)) (hz : ds.length + ms.length < 100000) (hz2 : (mergeT ds ms).length < 100000)
    (k : Gp K B F0 ta (u De) ro (k2.set j (a, .dic (mergeT ds ms)))) : Gp K B F0 ta (tSeq (tDrop (tBM K "dict" rDUpd te (tCons tf tNil))) u De) ro ka := g_dupd (De := { De with nx := u De }) ho h0 he hj hz hz2 k
end
end DL
namespace DL
open PySem L2 PySem.W
/-! ### facts -/
theorem t0_ok {K : PySem.W.Frag} {p : Str × Option Str} {i : Nat} (h : fT0 p i K = true) : IsT0 K (He.dflAt p i K) := by
  unfold fT0 at h
  cases hl : K.lookup (He.dflAt p i K) with
  | none => rw [hl] at h; cases h
  | some ob =>
    rw [hl] at h
    obtain ⟨cls, dict, data, sl⟩ := ob
    cases cls with
    | type T =>
      cases data with
      | seq its n =>
        have h' : (decide (T = "tuple") && its.isEmpty) = true := h
        rw [Bool.and_eq_true, decide_eq_true_eq] at h'
        obtain ⟨rfl, h2⟩ := h'
        have : its = #[] := Array.isEmpty_iff.mp h2
        subst this
        exact ⟨_, n, hl, rfl, rfl⟩
      | _ => cases h
    | _ => cases h
theorem wok_t0 {K : PySem.W.Frag} {a : Addr} (h : IsT0 K a) (B F : Hp) : WOk K B F (.ref a) (.val (.tup [])) := by
  obtain ⟨o, n, h1, h2, h3⟩ := h
  exact ⟨a, [], rfl, .inr ⟨o, #[], n, h1, h2, h3, Nat.zero_le _, .nil⟩, rfl⟩
section
variable {P : Program} {w : World} {K : PySem.W.Frag} {mg : Str → Option Value} {base : Heap} {f : Addr} {fd : FuncData} {x qual : Str} {params : Arguments} {body : List Stmt} {scope : Scope} {ps N : List Str} {k j : Nat} {C : Ct} {dvs : List V}
end
end DL
namespace DL
open PySem L2 PySem.W
theorem hu1 {k : Nat} {A : Around} (r : Room k A) : A.units + 1 < cLine := by have := r.units; omega
end DL

namespace DL
open PySem L2 PySem.W
section
variable {K : PySem.W.Frag} {B F F0 : Hp} {ro : Ro} {ka k1 k2 : Cells} {ta : List (V × W)} {sg : L2.St} {H : Hp} {te tf : TE} {w : W} {n : Nd}
/-! ### is None -/
def isNonD : D → Bool
  | .non => true
  | _ => false
theorem isNonD_of {F : Hp} {d : D} {v : V} (h : Rp K F d v) : decide (v = .non) = isNonD d := by
  cases d with
  | non => rw [show v = .non from h]; rfl
  | bl b => rw [show v = .bl b from h]; rfl
  | int i => rw [show v = .int i from h]; rfl
  | str s => rw [show v = .str s from h]; rfl
  | ty n => rw [show v = .ty n from h]; rfl
  | adr a => rw [show v = .ref a from h]; rfl
  | tup ds => obtain ⟨a, _, rfl, _⟩ := h; rfl
  | lst ds => obtain ⟨a, _, rfl, _⟩ := h; rfl
  | dic ds => obtain ⟨a, _, rfl, _⟩ := h; rfl
  | dit ds => obtain ⟨a, _, rfl, _⟩ := h; rfl
  | din w ds => obtain ⟨a, _, rfl, _⟩ := h; rfl
  | ins C fs => obtain ⟨a, _, _, rfl, _⟩ := h; rfl
theorem En.isN {d : D} (e : En K B F0 ro ka ta sg H) {v : V} (h : (v, w) ∈ ta) (hw : w = .val d ∨ w = .vw d) : decide (v = .non) = isNonD d := by
  obtain ⟨F, _, e⟩ := e
  have := e.tm _ h
  rcases hw with rfl | rfl
  · exact isNonD_of (F := F) this
  · exact isNonD_of (F := uni B F) this
theorem ev_isN {d : D} (h : EvD K te ro ka w k1) (hw : w = .val d ∨ w = .vw d := by exact .inl rfl) : EvD K (tOp rIsN te (tC .non)) ro ka (.val (.bl (isNonD d))) k1 := fun B F0 ta sg H Q e q => h B F0 ta sg H _ e fun v H1 e1 =>
  ⟨rfl, by rw [e1.isN List.mem_cons_self hw]; exact q _ _ (e1.pop.push_imm fun _ => rfl)⟩
theorem ev_notN {d : D} (h : EvD K te ro ka w k1) (hw : w = .val d ∨ w = .vw d := by exact .inl rfl) : EvD K (tOp rNotN te (tC .non)) ro ka (.val (.bl (!isNonD d))) k1 := fun B F0 ta sg H Q e q => h B F0 ta sg H _ e fun v H1 e1 =>
  ⟨rfl, by rw [e1.isN List.mem_cons_self hw]; exact q _ _ (e1.pop.push_imm fun _ => rfl)⟩
theorem EvNR.toR {R : Nd → Cells → Prop} (h : EvNR K te ro ka R) : EvR K te ro ka (fun w k => ∃ a n k0, w = .val (.adr a) ∧ R n k0 ∧ k = k0 ++ [(a, n)]) := fun B F0 ta sg H Q e q =>
  h B F0 ta sg H Q e fun n k a H' r e1 => q _ _ (.ref a) H' ⟨a, n, k, rfl, r, rfl⟩ (e1.push_imm fun _ => rfl)
end
end DL

namespace DL
open PySem L2 PySem.W
theorem sqf_stD (b : Bool) (ss : List Str) : SqF b (stD ss) := .inr (List.all_eq_true.mpr fun d hd => by
  obtain ⟨s, _, rfl⟩ := List.mem_map.mp hd
  rfl)
end DL
namespace DL
open PySem L2 PySem.W
section
variable {K : PySem.W.Frag} {ro : Ro} {ka k1 k2 k3 : Cells} {te : TE} {tr : TA} {w : W} {E : XK}
/-- a method, its end told -/
theorem ev_methA {Cc : Ct} {ws : List W} {C : Addr} {m : Str} {fs : List (Str × D)} {b : Bool} {d : D} (kr : Cells) (h : EvD K te ro ka w k1) (l : Io k1 w C fs b) (hm : fs.lookup m = none) (ha : EvA K tr ro k1 ws (k2 ++ kr)) (hC : Cc (w :: ws) k2 (Rt d k3)) : EvD K (tMeth C m (spC K Cc) [] E te tr) ro ka (.val d) (k3 ++ kr) :=
  (evr_meth kr h l hm ha hC fun o k ho => ⟨d, ho.1⟩).d fun w' k ⟨d', k4, ho, e1, e2⟩ => by
    obtain ⟨h1, h2⟩ := ho
    cases h1
    exact ⟨e1, by rw [e2, h2]⟩
theorem at_t3 {d1 d2 d3 : D} {i j k : Nat} : AsT K (gTup K 3 (gCons (gName i) (gCons (gName j) (gCons (gName k) gNil)))) (.val (.tup [d1, d2, d3])) ro (((ro.set i (some (.val d1))).set j (some (.val d2))).set k (some (.val d3))) := at_tup rfl (al_cons at_n (al_cons at_n (al_cons at_n al_nil)))
end
end DL
namespace DL
open PySem L2 PySem.W
/-! ### tables with text keys -/
section
variable {β : Type} {f : β → D}
def tbD (f : β → D) (xs : List (Str × β)) : List (Key × D) := xs.map fun p => (.inr p.1, f p.2)
abbrev keysT (xs : List (Str × β)) : List Str := xs.map (·.1)
theorem tbD_len (xs : List (Str × β)) : (tbD f xs).length = xs.length := List.length_map _
theorem tbD_app (xs ys : List (Str × β)) : tbD f (xs ++ ys) = tbD f xs ++ tbD f ys := List.map_append
theorem getT_isSome {κ α : Type} [DecidableEq κ] (kvs : List (κ × α)) (k : κ) : (getT kvs k).isSome = hasT kvs k := by
  unfold getT hasT
  rw [Option.isSome_map]
  induction kvs with
  | nil => rfl
  | cons x l ih =>
    rw [List.find?_cons, List.any_cons]
    cases h : decide (x.1 = k) with
    | true => rfl
    | false => rw [ih]; rfl
theorem tb_has {xs : List (Str × β)} {s : Str} : hasT (tbD f xs) (.inr s) = decide (s ∈ keysT xs) := by
  unfold hasT tbD
  rw [List.any_map, Bool.eq_iff_iff, List.any_eq_true, decide_eq_true_eq, List.mem_map]
  constructor
  · rintro ⟨r, h1, h2⟩
    exact ⟨r, h1, Sum.inr.inj (of_decide_eq_true h2)⟩
  · rintro ⟨r, h1, h2⟩
    exact ⟨r, h1, decide_eq_true (congrArg Sum.inr h2)⟩
theorem tb_in (xs : List (Str × β)) (s : Str) : (getT (tbD f xs) (.inr s)).isSome = decide (s ∈ keysT xs) := (getT_isSome _ _).trans tb_has
theorem tb_put {xs : List (Str × β)} {s : Str} {v : β} (h : ¬ s ∈ keysT xs) : putT (tbD f xs) (.inr s) (f v) = tbD f (xs ++ [(s, v)]) := by
  unfold putT
  rw [if_neg (by rw [tb_has, decide_eq_true_eq]; exact h), tbD_app]
  rfl
theorem tb_get {xs : List (Str × β)} (hn : (keysT xs).Nodup) {s : Str} {v : β} (h : (s, v) ∈ xs) : getT (tbD f xs) (.inr s) = some (f v) := by
  induction xs with
  | nil => cases h
  | cons x l ih =>
    have hn2 := List.nodup_cons.mp hn
    unfold getT tbD
    rw [List.map_cons, List.find?_cons]
    rcases List.mem_cons.mp h with e | h
    · rw [← e, decide_eq_true rfl]
      rfl
    · have ne : ¬ (Sum.inr x.1 : Int ⊕ Str) = .inr s := fun z => hn2.1 (by show x.1 ∈ _; rw [Sum.inr.inj z]; exact List.mem_map.mpr ⟨_, h, rfl⟩)
      rw [decide_eq_false ne]
      exact ih hn2.2 h
theorem keys_app (xs ys : List (Str × β)) : keysT (xs ++ ys) = keysT xs ++ keysT ys := List.map_append
theorem key_has {xs : List (Str × β)} {s : Str} (h : s ∈ keysT xs) : ∃ v, (s, v) ∈ xs := by
  obtain ⟨p, hp, rfl⟩ := List.mem_map.mp h
  exact ⟨p.2, hp⟩
end
end DL
namespace DL
open PySem L2 PySem.W
section
variable {K : PySem.W.Frag} {ro : Ro} {ka k1 : Cells} {te tf : TE} {P : W → Cells → Prop} {R : Nd → Cells → Prop}
end
end DL
namespace DL
open PySem L2 PySem.W
section
variable {K : PySem.W.Frag} {B F0 : Hp} {ro : Ro} {ka k1 : Cells} {ta : List (V × W)} {te : TE} {w : W} {b : Bool} {R : Nd → Cells → Prop} {De : Ends} {u : TS}
/-- the texts of a list or tuple -/
theorem ei_strsL {t b : Bool} {ss : List Str} (h : EvD K te ro ka w k1) (l : Lk k1 w t (stD ss) b) : EvI K (iSeq K te) ro ka (ss.map fun s => W.val (.str s)) (Stay w (stD ss)) k1 := by
  have e : (stD ss).map (part b) = ss.map fun s => W.val (.str s) := by
    unfold stD
    rw [List.map_map]
    exact List.map_congr_left fun s _ => by cases b <;> rfl
  have := ei_seq h l
  rwa [e] at this
/-- a new dict, told as a whole, frozen -/
theorem EvNR.dicD {ms : List (Key × D)} (h : EvNR K te ro ka R) (hR : ∀ n k, R n k → n = .dic ms ∧ k = k1) : EvD K te ro ka (.val (.dic ms)) k1 := fun B F0 ta sg H Q e q => h B F0 ta sg H Q e fun n k a H1 r e1 => by
  obtain ⟨rfl, rfl⟩ := hR n k r
  exact q _ _ e1.freeze_k
theorem EvNR.lstD {ds : List D} (h : EvNR K te ro ka R) (hR : ∀ n k, R n k → n = .lst ds ∧ k = k1) : EvD K te ro ka (.val (.lst ds)) k1 := fun B F0 ta sg H Q e q => h B F0 ta sg H Q e fun n k a H1 r e1 => by
  obtain ⟨rfl, rfl⟩ := hR n k r
  exact q _ _ e1.freeze_l
/-- x = [.. for .. in d], d locked meanwhile -/
theorem g_asgLk {i : Nat} (h : EvNR K (tLkE te) ro ka R) (k : ∀ n k1 a, R n k1 → Gp K B F0 ta De.nx (ro.set i (some (.val (.adr a)))) (k1 ++ [(a, n)])) : Gp K B F0 ta (tLkS (tAsg te (gName i)) De) ro ka := g_asgNR (te := tLkE te) h k
theorem q_asgLk {i : Nat} (h : EvNR K (tLkE te) ro ka R) (k : ∀ n k1 a, R n k1 → Gp K B F0 ta (u De) (ro.set i (some (.val (.adr a)))) (k1 ++ [(a, n)])) : Gp K B F0 ta (tSeq (tLkS (tAsg te (gName i))) u De) ro ka := g_asgLk (De := { De with nx := u De }) h k
end
end DL
namespace DL
open PySem L2 PySem.W
section
variable {K : PySem.W.Frag} {ro : Ro} {ka k1 k2 : Cells} {ty td : TE} {P : W → Cells → Prop}
/-- text in d, d told by a word -/
theorem ev_dinR {s : Str} {bb : Bool} (h : EvD K ty ro ka (.val (.str s)) k1) (h2 : EvR K td ro k1 P) (hP : ∀ w k, P w k → k = k2 ∧ ∃ ds b, Dk k w ds b ∧ (getT ds (.inr s)).isSome = bb) : EvD K (tDIn ty td) ro ka (.val (.bl bb)) k2 := fun B F0 ta sg H Q e q =>
  h B F0 ta sg H _ e fun u H1 e1 => h2 B F0 _ sg H1 _ e1 fun w k v H2 p e2 => by
    obtain ⟨rfl, ds, b, l, hb⟩ := hP w k p
    have hu := e2.tm_str (v := u) (i := s) (List.mem_cons_of_mem _ List.mem_cons_self)
    subst hu
    obtain ⟨F, a, xs, g, ef, rfl, h3, h4⟩ := e2.dk l List.mem_cons_self
    have hx : (getT xs (.inr s)).isSome = bb := by rw [← hb, getT_isSome, getT_isSome, (rpk_pt.mp h4).any]
    refine ⟨a, getT xs (.inr s), rfl, .inl ⟨xs, .inr s, h3, rfl, rfl⟩, ?_⟩
    rw [hx]
    exact q _ _ ((e2.held (ta' := ta) fun p hp => List.mem_cons_of_mem _ (List.mem_cons_of_mem _ hp)).push_imm fun _ => rfl)
end
end DL
namespace DL
open PySem L2 PySem.W
section
variable {K : PySem.W.Frag} {ro : Ro} {ka k1 : Cells} {te tf : TE} {n : Nd} {y : W} {E : XK}
end
end DL

/-! ED: d.get(k) (own work). -/
namespace DL
open PySem L2 PySem.W
section
variable {K : PySem.W.Frag} {ro : Ro} {ka k1 k2 : Cells} {td ty : TE} {w : W} {b : Bool}
/-- what a dict tells of a text: None where it has none -/
def getD? (ds : List (Key × D)) (s : Str) : D := (getT ds (.inr s)).getD .non
/-- d.get(text) -/
theorem ev_dgetN {s : Str} {ds : List (Key × D)} (h : EvD K td ro ka w k1) (l1 : Dk k1 w ds b) (h2 : EvD K ty ro k1 (.val (.str s)) k2) (l2 : Dk k2 w ds b) : EvD K (tDGet1 td ty) ro ka (part b (getD? ds s)) k2 := fun B F0 ta sg H Q e q =>
  h B F0 ta sg H _ e fun u H1 e1 => by
    obtain ⟨_, a, xs1, _, _, rfl, r1, _⟩ := e1.dk l1 List.mem_cons_self
    refine ⟨a, rfl, .inl ⟨xs1, r1⟩, h2 B F0 _ sg H1 _ e1 fun v H2 e2 => ?_⟩
    have hv := e2.tm_str (v := v) (i := s) List.mem_cons_self
    subst hv
    obtain ⟨F, a', xs, g, ef, ea, r2, rk⟩ := e2.dk l2 (List.mem_cons_of_mem _ List.mem_cons_self)
    cases ea
    have pt := (rpk_pt.mp rk).get (.inr s)
    refine ⟨getT xs (.inr s), .inl ⟨xs, .inr s, r2, rfl, rfl⟩, ?_⟩
    have back := ef.held (ta' := ta) fun p hp => List.mem_cons_of_mem _ (List.mem_cons_of_mem _ hp)
    unfold getD? at q
    cases hd : getT ds (.inr s) with
    | none =>
      rw [hd] at q
      rw [pt.1 hd]
      refine q _ _ ⟨F, g, back.push ?_⟩
      cases b <;> exact rfl
    | some d =>
      obtain ⟨x, hx, rx⟩ := pt.2 d hd
      rw [hd] at q
      rw [hx]
      exact q _ _ ⟨F, g, back.push (wok_part b rx)⟩
end
end DL

/-! EE: try with any number of except clauses, each with or without a name (own work). -/
namespace DL
open PySem L2 PySem.W PyProof.Rows

/-- the exception at a has come down in X; but for it the state is as σ, H tell -/
def Down (X : Cx) (pins : List (Addr × Obj)) (a : Addr) (cls : Value) (d : Option Addr) (σ : L2.St) (H : Hp) (s : Shared) : Prop :=
  ∃ (B : Heap) (s0 : Shared), L2.Inv X pins σ H s0 ∧ (∀ b o, s0.heap.get? b = some o → b ∉ frs X.stack → B.get? b = some o) ∧ s0.heap.UpToSlots s.heap ∧
    HandSPX.FlyingZ B (X.env :: X.outer) a (Zc cls d) s.heap ∧ H a = none ∧ s.os = s0.os ∧ AllBare s.gens
section
variable {X : Cx} {pins : List (Addr × Obj)} {a : Addr} {cls : Value} {d : Option Addr} {σ : L2.St} {H : Hp} {s : Shared}
theorem Down.inv (z : Down X pins a cls d σ H s) : L2.Inv X pins σ H s :=
  let ⟨_, _, I, nb, up, fl, _, os, ag⟩ := z
  I.landed nb fl.1 up os ag
theorem Down.obj (z : Down X pins a cls d σ H s) : ∃ (oe : Obj) (vs : Array Value), s.heap.get? a = some oe ∧ Zc cls d oe ∧ oe.data = .fields vs :=
  let ⟨_, _, _, _, _, fl, _⟩ := z
  let ⟨oe, vs, h1, h2, h3⟩ := fl.there
  ⟨oe, vs, h1, h2, h3⟩
/-- no frame's slots stand there -/
theorem Down.off (z : Down X pins a cls d σ H s) : a ∉ frs (X.env :: X.outer) := fun hm => by
  obtain ⟨oe, vs, h1, _, h3⟩ := z.obj
  obtain ⟨_, _, _, _, _, fl, _⟩ := z
  obtain ⟨_, o, h4, h5⟩ := fl.2.2.1.mem hm
  rw [h1] at h4
  cases h4
  exact h5 _ h3
/-- the state that an except suite finds -/
theorem Down.within (z : Down X pins a cls d σ H s) (hf : X.env.frame = some X.env.locals) : ∃ oe vs, oe.data = .fields vs ∧ Zc cls d oe ∧ s.heap.get? a = some oe ∧ L2.Inv (X.suite a ((a, oe) :: (X.pn ++ pins))) [] σ H s := by
  obtain ⟨oe, vs, h1, h2, h3⟩ := z.obj
  have off := z.off
  have na : H a = none := let ⟨_, _, _, _, _, _, na, _⟩ := z; na
  refine ⟨oe, vs, h3, h2, h1, z.inv.suite h1 h3 na (fun e => off ?_) fun hm => off ?_⟩
  · exact List.mem_filterMap.mpr ⟨X.env, List.mem_cons_self, by rw [hf, e]⟩
  · obtain ⟨e, he, q⟩ := List.mem_filterMap.mp hm
    exact List.mem_filterMap.mpr ⟨e, List.mem_cons_of_mem _ he, q⟩
theorem Down.again {M : Model} {A : Around} {E : Value → Shared → Prop} {Q : Unit → Shared → Prop} (z : Down X pins a cls d σ H s) (k : ∀ s', Down X pins a cls d σ H s' → Q () s') : wpAny M A (setFlight (.ref a) none) Q E s := by
  obtain ⟨B, s0, I, nb, up, fl, na, os, ag⟩ := z
  exact HandSPX.lands_againZ fl fun h' fl' up' => k _ ⟨B, s0, I, nb, up.trans up', fl', na, os, ag⟩
/-- no clause takes it -/
theorem Down.pass {W : WX} {Q : Flow → Shared → Prop} (z : Down X pins a cls d σ H s) (hs : X.stack = X.env :: X.outer) (hf : X.env.frame = some X.env.locals) (tk : Takes X W) (w : W cls d σ H) : wpAny (model X.prog X.w) X.A (handleBy (.ref a) X.env []) Q X.xe s := by
  obtain ⟨B, s0, I, nb, up, fl, na, os, ag⟩ := z
  obtain ⟨oe, vs, T, oT, ts, h1, h2, h3, h4, _⟩ := id fl.2.2.2
  have out : wpAny (model X.prog X.w) X.A (setFlight (.ref a) X.env.frame) (fun _ s4 => wpAny (model X.prog X.w) X.A (throw (.ref a) : Sem Flow) Q X.xe s4) X.xe s := by
    rw [hf]
    exact HandSPX.setFlight_upZ fl fun h' held up' => wpAny_throw (tk _ _ ⟨a, B, s0, pins, σ, H, cls, d, rfl, I, nb, up.trans up', .inr (.inr (hs ▸ held)), na, os, ag, w⟩)
  apply wpAny_handleBy_nil
  unfold PySem.passOn
  refine wpAny_bind (wpAny_field h1 h3 h4 ?_)
  have ne : ¬ (Value.ref T == Value.none) = true := by simp
  rw [if_neg ne]
  first
    | exact wpAny_bind (wpAny_pure (wpAny_bind out))
    | exact wpAny_bind out
end
/-- a clause: its class, the slot of its name, its suite -/
abbrev Cla := Value × Option Nat × (Addr → Value → Option Addr → TS)
/-- where a suite ends: its name is gone -/
def goneE (D : Ends) : Option Nat → Ends
  | none => D
  | some i => { nx := fun σ H => D.nx (σ.set i none) H, rt := D.rt, bk := fun σ H => D.bk (σ.set i none) H, ct := fun σ H => D.ct (σ.set i none) H }
def nameS (σ : L2.St) (a : Addr) : Option Nat → L2.St
  | none => σ
  | some i => σ.set i (some (.ref a))
/-- what one clause wishes: that its class tells whether it takes the exception; if so its suite's wish, else W -/
def oneCla (K : PySem.W.Frag) (D : Ends) (c : Cla) (W : WX) : WX := fun cls d σ H =>
  (exmOne K cls c.1 = some true ∧ ∀ a, H a = none → c.2.2 a cls d (goneE D c.2.1) (nameS σ a c.2.1) H) ∨ (exmOne K cls c.1 = some false ∧ W cls d σ H)
def wCla (K : PySem.W.Frag) (Wout : WX) (D : Ends) (l : List Cla) : WX := l.foldr (oneCla K D) Wout
/-- these clauses deal with whatever W lets come down -/
def Deals (X : Cx) (D : Ends) (hds : List ExceptHandler) (W : WX) : Prop := ∀ (pins : List (Addr × Obj)) (a : Addr) (cls : Value) (d : Option Addr) (σ : L2.St) (H : Hp) (s : Shared),
  Down X pins a cls d σ H s → W cls d σ H → wpAny (model X.prog X.w) X.A (handleBy (.ref a) X.env hds) (SP X pins D) X.xe s
/-- a suite keeps its wish -/
def SuiteOk (X : Cx) (b0 : Stmt) (suite : List Stmt) (ts : Addr → Value → Option Addr → TS) : Prop :=
  ∀ (a : Addr) (oe : Obj) (cls : Value) (d : Option Addr) (pn : List (Addr × Obj)), Zc cls d oe → (∃ vs, oe.data = .fields vs) → PSs (X.suite a ((a, oe) :: pn)) (b0 :: suite) (ts a cls d)
section
variable {X : Cx} {pins : List (Addr × Obj)} {a : Addr} {cls : Value} {d : Option Addr} {σ : L2.St} {H : Hp} {s : Shared} {D : Ends} {Wout W : WX} {f : Flow}
theorem Deals.nil (hs : X.stack = X.env :: X.outer) (hf : X.env.frame = some X.env.locals) (tk : Takes X Wout) : Deals X D [] Wout := fun _ _ _ _ _ _ _ z w => z.pass hs hf tk w
/-- the end of a suite without a name, seen from outside -/
theorem SP.outward {q0 : List (Addr × Obj)} {X' : Cx} (e : SP X' q0 D f s) (k : ∀ σ1 H1, L2.Inv X' q0 σ1 H1 s → L2.Inv X pins σ1 H1 s) : SP X pins D f s := by
  rcases f with _ | _ | _ | u
  · obtain ⟨σ1, H1, J, y⟩ := e
    exact ⟨σ1, H1, k _ _ J, y⟩
  · obtain ⟨σ1, H1, J, y⟩ := e
    exact ⟨σ1, H1, k _ _ J, y⟩
  · obtain ⟨σ1, H1, J, y⟩ := e
    exact ⟨σ1, H1, k _ _ J, y⟩
  · obtain ⟨v, σ1, H1, J, y⟩ := e
    exact ⟨v, σ1, H1, k _ _ J, y⟩
/-- a clause's class, looked up where the suite will stand -/
theorem Down.class_read (z : Down X pins a cls d σ H s) (hf : X.env.frame = some X.env.locals) {x : Str} {c : Value} {p : Pos} (hc : Names X x c) {Q : Value → Shared → Prop} {E : Value → Shared → Prop} (k : Q c s) :
    wpAny (model X.prog X.w) (X.A.mark (some (.ref a))) (eval (.Name x p) X.env) Q E s := by
  obtain ⟨oe, vs, _, _, _, S⟩ := z.within hf
  obtain ⟨g, nd, m | ⟨m, v, nn⟩⟩ := hc
  · exact ld_glob (X := X.suite a ((a, oe) :: (X.pn ++ pins))) S g m k nd
  · exact ld_blt (X := X.suite a ((a, oe) :: (X.pn ++ pins))) S g m v k nn nd
/-- does the class at c take it? -/
theorem Down.asked (z : Down X pins a cls d σ H s) {c : Value} {b : Bool} (h : exmOne X.K cls c = some b) : PySem.W.Looks (model X.prog X.w) s.heap (excMatches (.ref a) c) b :=
  PySem.W.exm_one z.inv.kIn (fun A Q E s' kp q => by
    obtain ⟨oe, vs, at_, zc, _⟩ := z.obj
    exact wpAny_typeOf_ref (kp _ _ at_) (zc.1.symm ▸ q)) h
theorem Deals.plain (hf : X.env.frame = some X.env.locals) {x : Str} {c : Value} {ts : Addr → Value → Option Addr → TS} {b0 : Stmt} {suite : List Stmt} {p q : Pos} {hds : List ExceptHandler} (hc : Names X x c) (ok : SuiteOk X b0 suite ts) (rest : Deals X D hds W) :
    Deals X D (.ExceptHandler (some (.Name x p)) none (b0 :: suite) q :: hds) (oneCla X.K D (c, none, ts) W) := fun pins a cls d σ H s z w => by
  refine wpAny_handleBy_cons (codeAny_handlers_test (z.class_read hf hc ?_)) (fun e => by cases e)
  rcases w with ⟨hb, w⟩ | ⟨hb, w⟩ <;> refine (z.asked hb).here ?_
  · refine codeAny_handlers_suite (z.again fun s1 z1 => ?_)
    obtain ⟨oe, vs, dat, zc, _, S⟩ := z1.within hf
    have na : H a = none := z.elim fun _ r => r.elim fun _ r => r.2.2.2.2.1
    exact wpAny_mono ((ok a oe cls d (X.pn ++ pins) zc ⟨_, dat⟩).run [] s1 σ H D S (w a na)) (fun g s2 e => SP.outward e fun _ _ J => J.unsuite z.inv.ok) fun _ _ z => z.elim
  · exact rest pins a cls d σ H s z w
theorem Deals.named (hf : X.env.frame = some X.env.locals) (hN : X.N.Nodup) {x n : Str} {c : Value} {i : Nat} {ts : Addr → Value → Option Addr → TS} {b0 : Stmt} {suite : List Stmt} {p q : Pos} {hds : List ExceptHandler} (hc : Names X x c) (hi : X.N[i]? = some n) (hl : X.env.kindOf n = some .local)
    (ok : SuiteOk X b0 suite ts) (rest : Deals X D hds W) : Deals X D (.ExceptHandler (some (.Name x p)) (some n) (b0 :: suite) q :: hds) (oneCla X.K D (c, some i, ts) W) := fun pins a cls d σ H s z w => by
  refine wpAny_handleBy_cons (codeAny_handlers_test (z.class_read hf hc ?_)) (fun e => by cases e)
  rcases w with ⟨hb, w⟩ | ⟨hb, w⟩ <;> refine (z.asked hb).here ?_
  · refine codeAny_handlers_suite_as (z.again fun s1 z1 => ?_)
    obtain ⟨oe, vs, dat, zc, _, S⟩ := z1.within hf
    have na : H a = none := z.elim fun _ r => r.elim fun _ r => r.2.2.2.2.1
    refine store_ok (X := X.suite a ((a, oe) :: (X.pn ++ pins))) (v := .ref a) S hN hi (.inl hl) rfl (fun s2 S2 => ?_) (.inr hl)
    refine wpAny_mono ((ok a oe cls d (X.pn ++ pins) zc ⟨_, dat⟩).run [] s2 _ H (goneE D (some i)) S2 (w a na)) (fun g s3 e => ?_) fun _ _ z => z.elim
    rcases g with _ | _ | _ | u
    · obtain ⟨σ1, H1, J, y⟩ := e
      exact gone_ok (J.unsuite z.inv.ok) hN hi hl fun s4 J4 => ⟨_, H1, J4, y⟩
    · obtain ⟨σ1, H1, J, y⟩ := e
      exact gone_ok (J.unsuite z.inv.ok) hN hi hl fun s4 J4 => ⟨_, H1, J4, y⟩
    · obtain ⟨σ1, H1, J, y⟩ := e
      exact gone_ok (J.unsuite z.inv.ok) hN hi hl fun s4 J4 => ⟨_, H1, J4, y⟩
    · obtain ⟨v, σ1, H1, J, y⟩ := e
      exact gone_ok (J.unsuite z.inv.ok) hN hi hl fun s4 J4 => ⟨v, _, H1, J4, y⟩
  · exact rest pins a cls d σ H s z w
end
section
variable {X : Cx} {body : List Stmt} {h0 : ExceptHandler} {hds : List ExceptHandler} {l : List Cla} {pos : Pos} {tb : WX → TS} {Wout : WX}
/-- try: body, except .., except .. as .. -/
theorem ps_tryC (hs : X.stack = X.env :: X.outer) (hf : X.env.frame = some X.env.locals) (tk : Takes X Wout)
    (hb : ∀ (W : WX) (pn : List (Addr × Obj)) (xe : Value → Shared → Prop), Takes (X.tr pn xe) W → PassesOwn (model X.prog X.w) X.A X.env xe → PSs (X.tr pn xe) body (tb W))
    (hh : ∀ D, Deals X D [] Wout → Deals X D (h0 :: hds) (wCla X.K Wout D l)) : PS X (.Try body (h0 :: hds) [] [] pos) (fun D σ H => tb (wCla X.K Wout D l) D σ H) where
  run pins s σ H D I h := by
    have ok := I.ok
    have hfr : X.A.frames = some (X.env :: X.outer) := ok.frames.trans (congrArg some hs)
    apply wpAny_Try_except
    let xe : Value → Shared → Prop := fun e s1 => wpAny (model X.prog X.w) X.A (noteFrame e X.env) (fun _ s2 => wpAny (model X.prog X.w) X.A (setFlight e none) (fun _ s3 =>
      wpAny (model X.prog X.w) X.A (handleBy e X.env (h0 :: hds)) (SP X pins D) X.xe s3) X.xe s2) X.xe s1
    have catches : Takes (X.tr (X.pn ++ pins) xe) (wCla X.K Wout D l) := by
      rintro _ s' ⟨a, B, s0, pins', σ', H', cls, d, rfl, J, nb, up, sky, na, os, ag, w⟩
      have sky' : Sky B (X.env :: X.outer) a (Zc cls d) X.env.locals s'.heap := hs ▸ sky
      exact Sky.land Zc.steady hfr hf sky' fun h3 fl up3 => hh D (.nil hs hf tk) _ _ _ _ _ _ _ ⟨B, s0, J.ofTry ok, nb, up.trans up3, fl, na, os, ag⟩ w
    refine wpAny_mono ((hb _ (X.pn ++ pins) xe catches PassesOwn.looking).run [] s σ H D (I.toTry _) h) (fun f s1 e => ?_) fun _ _ z => z
    have back := SP.outward (X := X) (pins := pins) e fun _ _ J => J.ofTry ok
    cases f with
    | next => exact wpAny_execs_nil back
    | ret u => exact back
    | brk => exact back
    | cont => exact back
end
end DL

/-! EF: what several clauses do with an exception, by data (own work). -/
namespace DL
open PySem L2 PySem.W
/-- of the clauses l the one with oi, ts takes an exception of C1 -/
inductive Hit (K : PySem.W.Frag) (C1 : Addr) : List Cla → Option Nat → (Addr → Value → Option Addr → TS) → Prop
  | here {c : Value} {oi : Option Nat} {ts : Addr → Value → Option Addr → TS} {r : List Cla} (h : exmOne K (.ref C1) c = some true) : Hit K C1 ((c, oi, ts) :: r) oi ts
  | next {c : Value} {oi oj : Option Nat} {ts us : Addr → Value → Option Addr → TS} {r : List Cla} (h : exmOne K (.ref C1) c = some false) (k : Hit K C1 r oi ts) : Hit K C1 ((c, oj, us) :: r) oi ts
/-- the slots of a suite: the exception's name alone is told -/
def suiteR (n : Nat) (a : Addr) : Option Nat → Ro
  | none => List.replicate n none
  | some i => (List.replicate n none).set i (some (.val (.adr a)))
section
variable {K : PySem.W.Frag} {B F0 : Hp} {ro : Ro} {ka k1 k2 k3 kr : Cells} {ta : List (V × W)} {sg : L2.St} {H : Hp} {te tf : TE} {tr : TA} {C C1 : Addr} {gs : List (Str × D)} {E : XK} {De De' : Ends} {dx : Option Addr} {l : List Cla} {oi : Option Nat} {ts : Addr → Value → Option Addr → TS} {Wout : WX} {u : TS}
theorem En.wiped (e : En K B F0 ro ka ta sg H) {σ : L2.St} (h : σ.length = ro.length) : En K B F0 (List.replicate ro.length none) ka ta σ H :=
  let ⟨F, g, q⟩ := e
  ⟨F, g, q.frame (by rw [List.length_replicate, h]) fun i w z => by rw [List.getElem?_replicate] at z; split at z <;> cases z⟩
theorem hit_wish {D : Ends} {σ : L2.St} (hit : Hit K C1 l oi ts) (h : ∀ a, ts a (.ref C1) dx (goneE D oi) (nameS σ a oi) H) : wCla K Wout D l (.ref C1) dx σ H := by
  induction hit with
  | here hx => exact .inl ⟨hx, fun a _ => h a⟩
  | next hx _ ih => exact .inr ⟨hx, ih h⟩
theorem xw_cla (hit : Hit K C1 l oi ts) (h : ∀ a, Gp K B F0 ta (ts a (.ref C1) dx (goneE De oi)) (suiteR ro.length a oi) ka) (e : En K B F0 ro ka ta sg H) : XW ro.length (wCla K Wout De l) (.ref C1) dx H := fun σ hσ =>
  hit_wish hit fun a => by
    have e2 := e.wiped hσ
    cases oi with
    | none => exact h a σ H e2
    | some i => exact h a _ H (e2.setA i a)
/-- return of what raises an error with fields, caught -/
theorem g_retY (h : EvX K te ro ka (XW ro.length (wCla K Wout De l)) C1 gs k2) (hit : Hit K C1 l oi ts) (hs : ∀ a dx, Gp K B F0 ta (ts a (.ref C1) (some dx) (goneE De oi)) (suiteR ro.length a oi) (k2 ++ [(dx, .xd gs)])) : Gp K B F0 ta (tRet te De') ro ka := fun sg H e =>
  h B F0 ta sg H _ e fun dx H' e' => xw_cla hit (fun a => hs a dx) e'
end
end DL

/-! EG: enumerate of lists (own work). -/
namespace DL
open PySem L2 PySem.W
section
variable {K : PySem.W.Frag} {ro : Ro} {ka k1 : Cells} {te : TE} {w : W}
theorem ei_enum {ds : List D} (h : EvD K te ro ka w k1) (l : Lk k1 w false ds false) : EvI K (iEnum K (tCons te tNil)) ro ka ((List.range ds.length).map fun i : Nat => W.val (.tup [.int (i : Int), ds.getD i .non])) (Stay w ds) k1 := fun B F0 ta sg H R e q =>
  h B F0 ta sg H _ e fun v H1 e1 => by
    have again : ∀ (a : Addr) ro2 ka2 ta2 sg2 H2, Stay w ds ka2 → (V.ref a, w) ∈ ta2 → En K B F0 ro2 ka2 ta2 sg2 H2 → ∃ F ys, EnF K B F ro2 ka2 ta2 sg2 H2 ∧ Gr B F0 F ∧ SqL K H2 a ys ∧ RpL K F ds ys := fun a ro2 ka2 ta2 sg2 H2 hs hm e2 => by
      obtain ⟨F, g, ef⟩ := e2
      obtain ⟨b, ys, eb, s2, r2⟩ := (l.mono ka2 hs).get ef (ef.tm _ hm)
      cases eb
      exact ⟨F, ys, ef, g, .inl s2, r2⟩
    obtain ⟨F, g, ef⟩ := id e1
    obtain ⟨a, xs, rfl, s1, r1⟩ := l.get ef (ef.tm _ List.mem_cons_self)
    refine ⟨a, xs, rfl, .inl s1, q _ ((.ref a, w) :: ta) H1 (fun p hp => List.mem_cons_of_mem _ hp) e1 (fun i w2 ro2 ka2 ta2 sg2 H2 hw hs hm e2 => ?_) fun i ro2 ka2 ta2 sg2 H2 hi hs hm e2 => ?_⟩
    · obtain ⟨F2, ys, ef2, g2, s2, r2⟩ := again a ro2 ka2 ta2 sg2 H2 hs (hm _ List.mem_cons_self) e2
      rw [List.getElem?_map] at hw
      obtain ⟨i', hi', rfl⟩ := Option.map_eq_some_iff.mp hw
      obtain ⟨hi1, hi2⟩ := List.getElem?_eq_some_iff.mp hi'
      rw [List.getElem_range] at hi2
      subst hi2
      rw [List.length_range] at hi1
      have hd : ds[i]? = some ds[i] := List.getElem?_eq_getElem hi1
      have hg : ds.getD i .non = ds[i] := by rw [List.getD_eq_getElem?_getD, hd]; rfl
      obtain ⟨y, hy, ry⟩ := rpl_get r2 hd
      refine ⟨⟨ys, y, s2, hy⟩, fun x H3 ⟨T, x', ex, hT, eH, hx⟩ => ?_⟩
      subst ex eH
      have h5 := hx ys s2
      rw [hy] at h5
      cases h5
      obtain ⟨e4, g4⟩ := ef2.lay (o := .tup [.int (i : Nat), y]) hT rfl
      refine ⟨_, g2.trans g4, e4.push ⟨T, _, rfl, .inl (.inl upd_same), ?_⟩⟩
      rw [hg]
      exact ⟨_, _, rfl, rfl, y, [], rfl, Rp.mono g4.sub.exz ef2.nz _ _ ry, rfl⟩
    · obtain ⟨F2, ys, ef2, g2, s2, r2⟩ := again a ro2 ka2 ta2 sg2 H2 hs (hm _ List.mem_cons_self) e2
      rw [List.length_map, List.length_range] at hi
      exact ⟨ys, s2, by rw [rpl_len r2]; exact hi⟩
end
end DL

namespace DL
open PySem L2 PySem.W
end DL

/-! EH: for loops of the hand layer out of the library's Goes: what an iterator hands out, told once, serves every caller (own work). -/
namespace DL
open PySem L2 PySem.W PyProof.Rows
/-- enumerate(v) for whatever begins with an iterator of its own -/
abbrev enumAt (i : Addr) : Obj := { cls := .type "enumerate", data := .fields #[.none, .bool false, .ref i, rawInt 0, .none, .none] }
theorem enum_new {v : Value} {o : Obj} {G : Heap → Prop} (B : Begins v o G) : Meets (Builtin.«enumerate.__new__» ⟨[.type "enumerate", v], []⟩)
    (fun _ R s => G s.heap ∧ R (.ok (.ret (.ref (s.heap.push o).objs.size))) { s with heap := (s.heap.push o).push (enumAt s.heap.objs.size) }) :=
  .of_wp fun prog w A R s ⟨g, h⟩ => by
    have own := sub_enumerate
    have go : ∀ {A' : Around} {E Q : Value → Shared → Prop}, Q (.ref s.heap.objs.size) { s with heap := s.heap.push o } → wpAny (model prog w) A' (pyIter v) Q E s := B.iter prog w _ _ s _ g
    wp_walk using go
    refine wpAny_stack_any fun _ => wpAny_pure ?_
    split
    all_goals try (rename_i c _ _ _ _ _; cases c == Value.type "enumerate")
    all_goals
      wp_walk using go
      exact ⟨_, rfl, h⟩
/-- the two new objects: the iterator, the count over it -/
theorem enum_called {prog : Program} {w : World} {A : Around} {E Q : Value → Shared → Prop} {s : Shared} {v : Value} {o : Obj} {G : Heap → Prop} (B : Begins v o G) (g : G s.heap)
    (h : ∀ n h', n = s.heap.objs.size → IsEnum h' (n + 1) n 0 .none → h'.get? n = some o → (∀ b ob, s.heap.get? b = some ob → h'.get? b = some ob) → Q (.ref (n + 1)) { s with heap := h' }) : wpAny (model prog w) A (call (.type "enumerate") [v]) Q E s := by
  apply callType_new F.called_enumerate (by decide) (F.typeCall_enumerate_1 _) (F.newCall_enumerate_1 _) (fun obj => F.args_object_init_2 obj _) F.entry_enumerate_new (enum_new B)
  have at1 : ((s.heap.push o).push (enumAt s.heap.objs.size)).get? (s.heap.objs.size + 1) = some (enumAt s.heap.objs.size) := by
    rw [← Heap.size_push]
    exact Heap.get?_push_size _ rfl
  have fin := h _ _ rfl at1 (Heap.get?_push_of_some _ (Heap.get?_push_size _ B.free)) fun b ob y => Heap.get?_push_of_some _ (Heap.get?_push_of_some _ y)
  rw [← Heap.size_push (o := o)] at fin at1
  exact ⟨g, ⟨_, at1, rfl⟩, fin⟩
end DL

/-! EI: nothing of its own (kept for the order of the parts). -/

/-! EJ: for i, x in enumerate(t), t a tuple: the library's GoesN over its Draws.tuple, told for the hand layer (own work). -/
namespace DL
open PySem L2 PySem.W PyProof.Rows
/-- each item in a new pair -/
def IteT (K : PySem.W.Frag) (a : Addr) : It where
  go i H := ∃ xs x, SqT K H a xs ∧ xs[i]? = some x
  yld i H v H' := ∃ T x, v = .ref T ∧ H T = none ∧ H' = upd H T (.tup [.int (i : Nat), x]) ∧ ∀ xs, SqT K H a xs → xs[i]? = some x
  stop i H := ∃ xs, SqT K H a xs ∧ xs.length ≤ i
/-- what stands at turn i: the count, the iterator; the three lie apart -/
structure EnT (a e it : Addr) (i : Nat) (h : Heap) : Prop where
  en : ∃ old, IsEnum h e it (0 + (i : Int)) old
  itr : h.IsTupleIter it a i
  apart : e ≠ it ∧ a ≠ it ∧ a ≠ e
namespace EnT
variable {a e it : Addr} {i : Nat} {h : Heap}
theorem cells (z : EnT a e it i h) : ∀ b ∈ [e, it], ∃ o, h.get? b = some o ∧ ∀ v, o.data ≠ .cell v := by
  obtain ⟨⟨_, x⟩, ⟨o, y, _, d⟩, _⟩ := z
  simp only [List.forall_mem_cons, List.not_mem_nil, false_imp_iff, implies_true, and_true]
  exact ⟨⟨_, x, fun _ c => nomatch c⟩, o, y, fun _ c => nomatch d.symm.trans c⟩
theorem le (z : EnT a e it i h) {b T : Addr} (hb : b ∈ [e, it]) (hT : h.objs.size ≤ T) : b ≠ T := fun q =>
  let ⟨_, y, _⟩ := z.cells b hb
  Nat.lt_irrefl _ (Nat.lt_of_lt_of_le (q ▸ Heap.lt_size y) hT)
theorem out (z : EnT a e it i h) : e ∉ [it, a] := by
  have := z.apart
  simp only [List.mem_cons, List.not_mem_nil, or_false, not_or]
  exact ⟨this.1, this.2.2.symm⟩
end EnT
theorem turn_enumT {P : Program} {w : World} {K : PySem.W.Frag} {es : List Expr} {k : Nat} {p : Pos} (a e it : Addr) : Turn P w K (.Tuple es k p) (IteT K a) [e, it] e (EnT a e it) where
  mem := List.mem_cons_self
  obj := fun _ _ z => z.cells
  keep := fun i h h' z same => ⟨z.en.imp fun _ y => same _ List.mem_cons_self _ y, z.itr.at (same _ (List.mem_cons_of_mem _ List.mem_cons_self)), z.apart⟩
  self := fun _ _ _ _ _ z q => z.en.elim fun _ y => wpAny_pyIter_enum y q
  item := by
    rintro X rfl rfl rfl hc i pins s σ H E I off z ⟨xs, x, hq, hx⟩
    obtain ⟨its, vals, tup, _⟩ := I.tuple hq
    obtain ⟨u, hu, ru⟩ := vals.get hx
    have here : its.toArray[i]? = some u := by rw [List.getElem?_toArray]; exact hu
    refine (GoesN.enumFrom (elts := es) (x1 := k) (pos := p) 0 (Draws.tuple (A := X.A.in1) (I.ok.hd hc) it a z.apart.2.1 its.toArray) e z.apart.1 z.out List.mem_cons_self).goes i s _ E (Array.getElem?_eq_some_iff.mp here).1 ⟨z.en, z.itr, tup⟩ ?_
    rintro _ h' tk ⟨T, t, y, rfl, hT, hy, made⟩ ⟨en', itr', _⟩ kept _
    cases here.symm.trans hy
    rw [Int.zero_add] at made
    have new : ObjOk X.prog X.w (upd H T (.tup [.int (i : Nat), x])) h' T (.tup [.int (i : Nat), x]) := ⟨Nat.le_of_ble_eq_true rfl, [.int i t, u], .cons ⟨t, rfl⟩ (.cons ru .nil), made⟩
    exact ⟨.ref T, _, I.turnedNew kept off hT new, rfl, ⟨T, x, rfl, I.hok.fresh hT, rfl, fun ys hy => I.tuple_inj hy hq ▸ hx⟩, ⟨en', itr', z.apart⟩, fun b hb => (upd_ne (z.le hb hT)).trans (off b hb).1⟩
  done := by
    rintro X rfl rfl rfl hc i pins s σ H E I off z ⟨xs, hq, hx⟩
    obtain ⟨its, vals, tup, _⟩ := I.tuple hq
    have none_ : its.toArray[i]? = none := Array.getElem?_eq_none (by rw [List.size_toArray, ← vals.length]; exact hx)
    have D : Draws X.prog X.w X.A.in1 it [it, a] i (fun _ _ => True) (fun j h => j = i ∧ h.IsTupleIter it a i ∧ h.IsTuple a its.toArray) :=
      { live := fun _ _ z => z.2.1.elim fun o q => ⟨o, q.1⟩
        frame := fun j h h' z keep => ⟨z.1, z.2.1.at (keep it List.mem_cons_self), z.2.2.at (keep a (List.mem_cons_of_mem _ List.mem_cons_self))⟩
        item := fun j s Q E hj z _ => absurd z.1 (Nat.ne_of_lt hj)
        done := fun s Q E z hE => wpAny_nextOf_tuple_end (I.ok.hd hc) z.2.1 z.2.2 none_ hE }
    obtain ⟨old, en⟩ := z.en
    obtain ⟨f0, f1, _, f3, f4, f5⟩ := off it (List.mem_cons_of_mem _ List.mem_cons_self)
    exact wpAny_pyNext_enum_endD D en ⟨rfl, z.itr, tup⟩ fun h' kept => ⟨rfl, I.turned (t' := s.toks) (fun b o hb q => kept b o hb q) f0 f1 f3 f4 f5⟩
def iEnumT (K : PySem.W.Frag) (ta : TA) : TI := fun σ H R => ta σ H fun vs H1 => ∃ a xs, vs = [.ref a] ∧ SqT K H1 a xs ∧ R (IteT K a) H1
theorem pi_enumT {X : Cx} {e : Expr} {ta : TA} {p pos tpos : Pos} {elts : List Expr} {kk : Nat} (hg : Gl X "enumerate") (hm : X.mg "enumerate" = none) (ha : PA X [e] ta) (hs : starEach [e] X.env = [(false, eval e X.env)] := by rfl) :
    PI X (.Tuple elts kk tpos) (.Call (.Name "enumerate" p) [e] [] pos) (iEnumT X.K ta) where
  run pins s σ H R I h := by
    apply Call_ (ld_blt I hg hm boot_enumerate (callWith_type1 (thn (ha.run pos pins s σ H _ I h) ?_) hs rfl))
    rintro us s1 ⟨vs, H1, I1, rv, a, xs, rfl, hq, q⟩
    obtain ⟨_, rfl, ⟨⟩⟩ := vals1 rv
    obtain ⟨its, _, tup, _⟩ := I1.tuple hq
    refine enum_called (begins_tuple a its.toArray) tup fun n h' hn en iter keep => wpAny_pyIter_enum en ?_
    have below : a < n := hn ▸ tup.elim fun _ z => Heap.lt_size z.1
    have new_ : ∀ b, s1.heap.objs.size ≤ b → FpOk X pins H1 b := fun b ge => I1.fpOk ge (I1.hok.fresh ge)
    have ge_of : ∀ b ∈ [n + 1, n], FpOk X pins H1 b := List.forall_mem_cons.mpr ⟨new_ _ (Nat.le_succ_of_le (Nat.le_of_eq hn.symm)), List.forall_mem_singleton.mpr (new_ _ (Nat.le_of_eq hn.symm))⟩
    exact ⟨n + 1, [n + 1, n], EnT a (n + 1) n, IteT X.K a, H1, rfl, I1.kept (t' := s1.toks) keep, turn_enumT a (n + 1) n,
      ⟨⟨_, en⟩, ⟨_, iter, rfl, rfl⟩, Nat.succ_ne_self n, Nat.ne_of_lt below, Nat.ne_of_lt (Nat.lt_succ_of_lt below)⟩,
      fun b hb => ge_of b hb, q⟩
end DL

/-! EK: enumerate of lists and tuples alike (own work). -/
namespace DL
open PySem L2 PySem.W
/-- enumerate, of a list or of a tuple -/
def iEnumU (K : PySem.W.Frag) (ta : TA) : TI := fun sg H R => iEnum K ta sg H R ∨ iEnumT K ta sg H R
theorem pi_enumU {X : Cx} {e : Expr} {ta : TA} {p pos tpos : Pos} {elts : List Expr} {kk : Nat} (hg : Gl X "enumerate") (hm : X.mg "enumerate" = none) (ha : PA X [e] ta) (hs : starEach [e] X.env = [(false, eval e X.env)] := by rfl) :
    PI X (.Tuple elts kk tpos) (.Call (.Name "enumerate" p) [e] [] pos) (iEnumU X.K ta) :=
  ⟨fun pins s sg H R I h => h.elim ((pi_enum hg hm ha hs).run pins s sg H R I) ((pi_enumT hg hm ha hs).run pins s sg H R I)⟩
section
variable {K : PySem.W.Frag} {ro : Ro} {ka k1 : Cells} {te : TE} {w : W}
theorem ei_enumT {ds : List D} (h : EvD K te ro ka (.val (.tup ds)) k1) : EvI K (iEnumT K (tCons te tNil)) ro ka ((List.range ds.length).map fun i : Nat => W.val (.tup [.int (i : Int), ds.getD i .non])) (fun _ => True) k1 := fun B F0 ta sg H R e q =>
  h B F0 ta sg H _ e fun v H1 e1 => by
    have again : ∀ (a : Addr) ro2 ka2 ta2 sg2 H2, (V.ref a, W.val (.tup ds)) ∈ ta2 → En K B F0 ro2 ka2 ta2 sg2 H2 → ∃ F ys, EnF K B F ro2 ka2 ta2 sg2 H2 ∧ Gr B F0 F ∧ SqT K H2 a ys ∧ RpL K F ds ys := fun a ro2 ka2 ta2 sg2 H2 hm e2 => by
      obtain ⟨F, g, ef⟩ := e2
      obtain ⟨b, ys, eb, s2, r2⟩ := Lk.vt.get ef (ef.tm _ hm)
      cases eb
      exact ⟨F, ys, ef, g, s2, r2⟩
    obtain ⟨F, g, ef⟩ := id e1
    obtain ⟨a, xs, rfl, s1, r1⟩ := Lk.vt.get ef (ef.tm _ List.mem_cons_self)
    refine ⟨a, xs, rfl, s1, q _ ((.ref a, W.val (.tup ds)) :: ta) H1 (fun p hp => List.mem_cons_of_mem _ hp) e1 (fun i w2 ro2 ka2 ta2 sg2 H2 hw hs hm e2 => ?_) fun i ro2 ka2 ta2 sg2 H2 hi hs hm e2 => ?_⟩
    · obtain ⟨F2, ys, ef2, g2, s2, r2⟩ := again a ro2 ka2 ta2 sg2 H2 (hm _ List.mem_cons_self) e2
      rw [List.getElem?_map] at hw
      obtain ⟨i', hi', rfl⟩ := Option.map_eq_some_iff.mp hw
      obtain ⟨hi1, hi2⟩ := List.getElem?_eq_some_iff.mp hi'
      rw [List.getElem_range] at hi2
      subst hi2
      rw [List.length_range] at hi1
      have hd : ds[i]? = some ds[i] := List.getElem?_eq_getElem hi1
      have hg : ds.getD i .non = ds[i] := by rw [List.getD_eq_getElem?_getD, hd]; rfl
      obtain ⟨y, hy, ry⟩ := rpl_get r2 hd
      refine ⟨⟨ys, y, s2, hy⟩, fun x H3 ⟨T, x', ex, hT, eH, hx⟩ => ?_⟩
      subst ex eH
      have h5 := hx ys s2
      rw [hy] at h5
      cases h5
      obtain ⟨e4, g4⟩ := ef2.lay (o := .tup [.int (i : Nat), y]) hT rfl
      refine ⟨_, g2.trans g4, e4.push ⟨T, _, rfl, .inl (.inl upd_same), ?_⟩⟩
      rw [hg]
      exact ⟨_, _, rfl, rfl, y, [], rfl, Rp.mono g4.sub.exz ef2.nz _ _ ry, rfl⟩
    · obtain ⟨F2, ys, ef2, g2, s2, r2⟩ := again a ro2 ka2 ta2 sg2 H2 (hm _ List.mem_cons_self) e2
      rw [List.length_map, List.length_range] at hi
      exact ⟨ys, s2, by rw [rpl_len r2]; exact hi⟩
theorem ei_orL {w1 w2 : TI} {ws : List W} {C : Cells → Prop} (h : EvI K w1 ro ka ws C k1) : EvI K (fun sg H R => w1 sg H R ∨ w2 sg H R) ro ka ws C k1 := fun B F0 ta sg H R e q => .inl (h B F0 ta sg H R e q)
theorem ei_orR {w1 w2 : TI} {ws : List W} {C : Cells → Prop} (h : EvI K w2 ro ka ws C k1) : EvI K (fun sg H R => w1 sg H R ∨ w2 sg H R) ro ka ws C k1 := fun B F0 ta sg H R e q => .inr (h B F0 ta sg H R e q)
/-- frozen lists, list cells, tuples -/
theorem ei_enumU {t : Bool} {ds : List D} (h : EvD K te ro ka w k1) (l : Lk k1 w t ds false) : EvI K (iEnumU K (tCons te tNil)) ro ka ((List.range ds.length).map fun i : Nat => W.val (.tup [.int (i : Int), ds.getD i .non])) (Stay w ds) k1 := by
  cases t with
  | false => exact ei_orL (ei_enum h l)
  | true =>
    cases l
    exact ei_orR (ei_enumT h)
end
end DL
namespace DL
open PySem L2 PySem.W
section
variable {K : PySem.W.Frag} {B F0 : Hp} {ro : Ro} {ka : Cells} {ta : List (V × W)} {De : Ends} {t u : TS}
theorem Gp.up {ta' : List (V × W)} {P : L2.St → Hp → Prop} (h : Gp K B F0 ta P ro ka) (s : ∀ p ∈ ta, p ∈ ta') : Gp K B F0 ta' P ro ka := fun sg H e => h sg H (e.held s)
end
/-! ### x not in y, y a text, a list, a tuple or a dict -/
def rDNi : R2 := fun x y H Q => ∃ a o, y = .ref a ∧ DGet H a x o ∧ Q (.bl (!o.isSome)) H
def rNiD (K : PySem.W.Frag) : R2 := fun x y H Q => rNiU K x y H Q ∨ rDNi x y H Q
section
variable {X : Cx}
theorem op_dni (hu : X.A.units + 1 < cLine) : OpR X (compareOp .NotIn) rDNi := fun pins s sg H x y v u Q I rx ry h => by
  obtain ⟨a, o, rfl, g, q⟩ := h
  obtain rfl : u = Value.ref a := ry
  exact d_notIn hu I g rx fun s' I' => ⟨.bl (!o.isSome), H, I', rfl, q⟩
theorem op_niD (hu : X.A.units + 1 < cLine) : OpR X (compareOp .NotIn) (rNiD X.K) := op_niU.or (op_dni hu)
end
/-- w holds the texts ys: a list or tuple of them, or a dict with these keys -/
inductive HasS (ka : Cells) : W → List Str → Prop where
  | sq {w : W} {t b : Bool} {ys : List Str} (l : Lk ka w t (stD ys) b) : HasS ka w ys
  | dc {w : W} {ds : List (Key × D)} {b : Bool} {ys : List Str} (l : Dk ka w ds b) (h : ∀ s, (getT ds (.inr s)).isSome = decide (s ∈ ys)) : HasS ka w ys
section
variable {K : PySem.W.Frag} {ro : Ro} {ka k1 k2 : Cells} {te tf : TE} {y : W}
theorem rv_dni {s : Str} {ds : List (Key × D)} {b : Bool} (l : Dk ka y ds b) : RvD K rDNi ka (.val (.str s)) y (.val (.bl (!(getT ds (.inr s)).isSome))) := fun B F0 ro ta sg H u v Q e h1 h2 q => by
  obtain rfl := e.tm_str h1
  obtain ⟨F, a, xs, g, ef, rfl, h3, h4⟩ := e.dk l h2
  have hg := (rpk_pt.mp h4).get (.inr s)
  refine ⟨a, getT xs (.inr s), rfl, .inl ⟨xs, .inr s, h3, rfl, rfl⟩, q _ _ ?_⟩
  have e5 := e.push_imm (v := .bl (!(getT xs (.inr s)).isSome)) (w := .val (.bl (!(getT xs (.inr s)).isSome))) fun _ => rfl
  cases hd : getT ds (.inr s) with
  | none => rw [hg.1 hd] at e5 ⊢; exact e5
  | some d =>
    obtain ⟨x, hx, _⟩ := hg.2 d hd
    rw [hx] at e5 ⊢
    exact e5
theorem ev_niH {s : Str} {ys : List Str} (h : EvD K te ro ka (.val (.str s)) k1) (h2 : EvD K tf ro k1 y k2) (l : HasS k2 y ys) : EvD K (tOp (rNiD K) te tf) ro ka (.val (.bl (!decide (s ∈ ys)))) k2 := by
  cases l with
  | sq l => exact ev_op h h2 (rvd_l (rvd_r (rv_inL (neg := true) l)))
  | dc l hs => exact (ev_op h h2 (rvd_r (rv_dni l))).to (by rw [hs])
end
end DL

/-! EL: cells frozen for the length of one expression, then cells again (own work). -/
namespace DL
open PySem L2 PySem.W
/-! ### data that reads no cell: numbers, texts, tuples of these -/
mutual
def tI : D → Bool
  | .lst _ => false | .dic _ => false | .dit _ => false | .ins _ _ => false | .din _ _ => false
  | .tup xs => tIL xs
  | _ => true
def tIL : List D → Bool
  | [] => true
  | d :: ds => tI d && tIL ds
end
section
variable {K : PySem.W.Frag} {B B' F F' F0 H H' : Hp} {ro ro' : Ro} {ka k1 k2 k3 kr kt : Cells} {ta tb : List (V × W)} {sg sg' : L2.St} {te tf : TE} {tt : TT} {w x y : W} {n : Nd} {a : Addr} {C : Addr}
/-- the heap F with the cells kt of H put in -/
def thF (F H : Hp) (kt : Cells) : Hp := fun a => if a ∈ kt.map (·.1) then H a else F a
theorem thF_in {a : Addr} (h : a ∈ kt.map (·.1)) : thF F H kt a = H a := if_pos h
theorem thF_out {a : Addr} (h : a ∉ kt.map (·.1)) : thF F H kt a = F a := if_neg h
theorem thF_sub (h : ∀ p ∈ kt, F p.1 = none) : Sub F (thF F H kt) := fun a o e => by
  rw [thF_out fun m => ?_]
  · exact e
  · obtain ⟨p, hp, rfl⟩ := List.mem_map.mp m
    rw [h p hp] at e
    cases e
/-- cells of the three kinds -/
def ndK : Nd → Bool
  | .lst _ => true | .dic _ => true | .ins _ _ => true | .din _ _ => true
  | _ => false
theorem ndok_kind {a : Addr} (h : NdOk K F H a n) (k : ndK n = true) : ∃ o, H a = some o ∧ isfz o = false ∧ ∀ xs, o ≠ .tup xs := by
  cases n with
  | lst ds => obtain ⟨xs, e, _⟩ := h; exact ⟨_, e, rfl, fun _ z => nomatch z⟩
  | dic ds => obtain ⟨xs, e, _⟩ := h; exact ⟨_, e, rfl, fun _ z => nomatch z⟩
  | ins C ds => obtain ⟨dx, xs, e, _⟩ := h; exact ⟨_, e, rfl, fun _ z => nomatch z⟩
  | din w ds => obtain ⟨xs, e, _⟩ := h; exact ⟨_, e, rfl, fun _ z => by unfold DnO at z; cases z⟩
  | _ => cases k
/-- what is known of cells that are put in -/
structure Thw (K : PySem.W.Frag) (F H : Hp) (kt : Cells) : Prop where
  no : ∀ p ∈ kt, F p.1 = none
  ok : ∀ p ∈ kt, NdOk K F H p.1 p.2
  kd : ∀ p ∈ kt, ndK p.2 = true
theorem Thw.gr (t : Thw K F H kt) (hB : ∀ p ∈ kt, B p.1 = none) : Gr B F (thF F H kt) := ⟨thF_sub t.no, fun a h1 h2 => by
  rw [thF_out fun m => ?_]
  · exact h1
  · obtain ⟨p, hp, rfl⟩ := List.mem_map.mp m
    exact h2 (hB p hp)⟩
theorem EnF.thw (e : EnF K B F ro (k1 ++ kt) ta sg H) (kd : ∀ p ∈ kt, ndK p.2 = true) : Thw K F H kt := ⟨fun p hp => (e.ce p (List.mem_append_right _ hp)).1, fun p hp => (e.ce p (List.mem_append_right _ hp)).2.2, kd⟩
theorem EnF.thB (e : EnF K B F ro (k1 ++ kt) ta sg H) : ∀ p ∈ kt, B p.1 = none := fun p hp => (e.ce p (List.mem_append_right _ hp)).2.1
theorem EnF.apart (e : EnF K B F ro (k1 ++ kt) ta sg H) {p : Addr × Nd} (hp : p ∈ k1) : p.1 ∉ kt.map (·.1) := fun m => by
  have nd := e.nd
  rw [List.map_append, List.nodup_append] at nd
  exact nd.2.2 p.1 (List.mem_map.mpr ⟨p, hp, rfl⟩) p.1 m rfl
/-- the cells kt go into what is frozen -/
theorem EnF.th_in (e : EnF K B F ro (k1 ++ kt) ta sg H) (kd : ∀ p ∈ kt, ndK p.2 = true) : EnF K (thF B H kt) (thF F H kt) ro k1 ta sg H := by
  have t := e.thw kd
  have hB := e.thB
  have gr := t.gr hB
  have sB : Sub B (thF B H kt) := thF_sub hB
  have nz : Nz (thF F H kt) := fun a u h => by
    by_cases m : a ∈ kt.map (·.1)
    · rw [thF_in m] at h
      obtain ⟨p, hp, rfl⟩ := List.mem_map.mp m
      obtain ⟨o, ho, hz, _⟩ := ndok_kind (t.ok p hp) (kd p hp)
      rw [ho] at h
      cases h
      exact hz
    · rw [thF_out m] at h
      exact e.nz a u h
  refine ⟨nz, fun a u h => ?_, fun a u h => ?_, ?_, fun p hp => ?_, e.ln, fun i w h => ?_, fun p hp => wok_subB nz sB (wok_gr e.nz gr (e.tm p hp))⟩
  · by_cases m : a ∈ kt.map (·.1)
    · rw [thF_in m] at h
      exact .inl h
    · rw [thF_out m] at h
      exact e.fz a u h
  · by_cases m : a ∈ kt.map (·.1)
    · rw [thF_in m] at h
      exact h
    · rw [thF_out m] at h
      exact e.fr a u h
  · have nd := e.nd
    rw [List.map_append, List.nodup_append] at nd
    exact nd.1
  · obtain ⟨c1, c2, c3⟩ := e.ce p (List.mem_append_left _ hp)
    have m := e.apart hp
    exact ⟨by rw [thF_out m]; exact c1, by rw [thF_out m]; exact c2, ndok_gr e.nz gr c3⟩
  · obtain ⟨v, h1, h2⟩ := e.sl i w h
    exact ⟨v, h1, wok_subB nz sB (wok_gr e.nz gr h2)⟩
/-! ### data that reads no cell stays without the cells -/
section
variable (no : ∀ b ∈ kt.map (·.1), ∃ o, F' b = some o ∧ isfz o = false ∧ ∀ xs, o ≠ .tup xs)
include no
theorem sqt_off {b : Addr} {xs : List V} (h : SqT K F' b xs) : SqT K (off F' kt) b xs := by
  rcases h with h | h
  · have m : b ∉ kt.map (·.1) := fun m => by
      obtain ⟨o, h1, h2, h3⟩ := no b m
      rcases h with h | ⟨z, h⟩
      · rw [h1] at h
        exact h3 _ (Option.some.inj h)
      · rw [h1] at h
        cases h
        cases h2
    exact .inl (h.elim (fun q => .inl (by rw [off_out m]; exact q)) fun ⟨z, q⟩ => .inr ⟨z, by rw [off_out m]; exact q⟩)
  · exact .inr h
mutual
theorem rp_off : ∀ (d : D) (v : V), tI d = true → Rp K F' d v → Rp K (off F' kt) d v
  | .non, v, _, h => h
  | .bl _, v, _, h => h
  | .int _, v, _, h => h
  | .str _, v, _, h => h
  | .ty _, v, _, h => h
  | .adr _, v, _, h => h
  | .tup ds, v, t, h => by
    obtain ⟨b, xs, e, h1, h2⟩ := h
    exact ⟨b, xs, e, sqt_off no h1, rpl_off ds xs t h2⟩
theorem rpl_off : ∀ (ds : List D) (xs : List V), tIL ds = true → RpL K F' ds xs → RpL K (off F' kt) ds xs
  | [], xs, _, h => h
  | d :: ds, xs, t, h => by
    obtain ⟨x, ys, e, h1, h2⟩ := h
    rw [tIL, Bool.and_eq_true] at t
    exact ⟨x, ys, e, rp_off d x t.1 h1, rpl_off ds ys t.2 h2⟩
end
end
end
/-! ### what a cell stands for -/
/-- the cell at a, with what stands behind it among kt, is the data d -/
def FrzD (K : PySem.W.Frag) (kt : Cells) (a : Addr) (d : D) : Prop := ∀ F H, Nz F → Thw K F H kt → Rp K (thF F H kt) d (.ref a)
/-- the same, or a cell and what it stands for -/
inductive FzR (K : PySem.W.Frag) (kt : Cells) : D → D → Prop where
  | s (d : D) : FzR K kt d d
  | a {a : Addr} {d : D} (h : FrzD K kt a d) : FzR K kt (.adr a) d
section
variable {K : PySem.W.Frag} {F H : Hp} {kt : Cells} {a : Addr} {C : Addr}
theorem FzR.rp {d e : D} {v : V} (z : FzR K kt d e) (nz : Nz F) (t : Thw K F H kt) (h : Rp K F d v) : Rp K (thF F H kt) e v := by
  cases z with
  | s => exact Rp.mono (thF_sub t.no).exz nz _ _ h
  | a q =>
    obtain rfl : v = _ := h
    exact q F H nz t
def FzL (K : PySem.W.Frag) (kt : Cells) : List D → List D → Prop
  | [], es => es = []
  | d :: ds, es => ∃ e r, es = e :: r ∧ FzR K kt d e ∧ FzL K kt ds r
theorem FzL.same : ∀ ds : List D, FzL K kt ds ds
  | [] => rfl
  | d :: ds => ⟨d, ds, rfl, .s d, FzL.same ds⟩
theorem FzL.rp (nz : Nz F) (t : Thw K F H kt) : ∀ {ds es : List D} {xs : List V}, FzL K kt ds es → RpL K F ds xs → RpL K (thF F H kt) es xs
  | [], es, xs, z, h => by
    obtain rfl : es = [] := z
    exact h
  | d :: ds, es, xs, ⟨e, r, e1, z1, z2⟩, ⟨x, ys, e2, h1, h2⟩ => by
    subst e1
    exact ⟨x, ys, e2, z1.rp nz t h1, FzL.rp nz t z2 h2⟩
def FzF (K : PySem.W.Frag) (kt : Cells) : List (Str × D) → List (Str × D) → Prop
  | [], es => es = []
  | (k, d) :: ds, es => ∃ e r, es = (k, e) :: r ∧ FzR K kt d e ∧ FzF K kt ds r
theorem FzF.rp (nz : Nz F) (t : Thw K F H kt) : ∀ {ds es : List (Str × D)} {xs : List (Str × V)}, FzF K kt ds es → RpF K F ds xs → RpF K (thF F H kt) es xs
  | [], es, xs, z, h => by
    obtain rfl : es = [] := z
    exact h
  | (k, d) :: ds, es, xs, ⟨e, r, e1, z1, z2⟩, ⟨x, ys, e2, h1, h2⟩ => by
    subst e1
    exact ⟨x, ys, e2, z1.rp nz t h1, FzF.rp nz t z2 h2⟩
theorem frz_l {ds es : List D} (m : (a, Nd.lst ds) ∈ kt) (z : FzL K kt ds es) : FrzD K kt a (.lst es) := fun F H nz t => by
  obtain ⟨xs, h, r⟩ := t.ok _ m
  exact ⟨a, xs, rfl, .inl (by rw [thF_in (List.mem_map.mpr ⟨_, m, rfl⟩)]; exact h), z.rp nz t r⟩
theorem frz_d {ds : List (Key × D)} (m : (a, Nd.dic ds) ∈ kt) : FrzD K kt a (.dic ds) := fun F H nz t => by
  obtain ⟨xs, h, r⟩ := t.ok _ m
  exact ⟨a, xs, rfl, .inl (by rw [thF_in (List.mem_map.mpr ⟨_, m, rfl⟩)]; exact h), RpK.mono (thF_sub t.no).exz nz _ _ r⟩
theorem frz_i {ds es : List (Str × D)} (m : (a, Nd.ins C ds) ∈ kt) (z : FzF K kt ds es) : FrzD K kt a (.ins C es) := fun F H nz t => by
  obtain ⟨dx, xs, h, r⟩ := t.ok _ m
  exact ⟨a, dx, xs, rfl, .inl (by rw [thF_in (List.mem_map.mpr ⟨_, m, rfl⟩)]; exact h), z.rp nz t r⟩
end
/-- the slots ro' are those of ro, but for cells that are told as what they stand for -/
structure RoT (K : PySem.W.Frag) (kt : Cells) (ro ro' : Ro) : Prop where
  len : ro'.length = ro.length
  at' : ∀ (i : Nat) (w : W), ro'[i]? = some (some w) → ro[i]? = some (some w) ∨ ∃ (a : Addr) (d : D), w = W.val d ∧ ro[i]? = some (some (W.val (.adr a))) ∧ FrzD K kt a d
section
variable {K : PySem.W.Frag} {B F F0 H H' : Hp} {ro ro' : Ro} {ka k1 k2 k3 kr kt : Cells} {ta tb : List (V × W)} {sg sg' : L2.St} {te tf : TE} {tt : TT} {w x y : W} {n : Nd} {a : Addr} {d : D}
theorem RoT.refl : RoT K kt ro ro := ⟨rfl, fun _ _ h => .inl h⟩
theorem RoT.set {i : Nat} (r : RoT K kt ro ro') (hi : ro[i]? = some (some (.val (.adr a)))) (z : FrzD K kt a d) : RoT K kt ro (ro'.set i (some (.val d))) := ⟨by rw [List.length_set]; exact r.len, fun j w h => by
  rw [List.getElem?_set] at h
  split at h
  · rename_i e
    subst e
    split at h
    · cases h
      exact .inr ⟨a, d, rfl, hi, z⟩
    · cases h
  · exact r.at' j w h⟩
theorem EnF.th_ro (e : EnF K B F ro (k1 ++ kt) ta sg H) (kd : ∀ p ∈ kt, ndK p.2 = true) (r : RoT K kt ro ro') : EnF K (thF B H kt) (thF F H kt) ro' k1 ta sg H := by
  have e1 := e.th_in kd
  refine { e1 with ln := e1.ln.trans r.len.symm, sl := fun i w h => ?_ }
  rcases r.at' i w h with h | ⟨a, d, rfl, h, z⟩
  · exact e1.sl i w h
  · obtain ⟨v, h1, h2⟩ := e1.sl i _ h
    obtain rfl : v = .ref a := h2
    exact ⟨_, h1, z F H e.nz (e.thw kd)⟩
end
end DL

/-! EM: in and bool by an own class's methods; d.pop(k) (own work). -/
namespace DL
open PySem PySem.Spec PyProof.Rows L2 PySem.W
section
variable {X : Cx} {CX : CXT} {k : Nat} {C f : Addr} {fd : FuncData} {ps : List Str} {sp : Sp} {E : XK}
end
end DL
namespace DL
open PySem L2 PySem.W
section
variable {X : Cx} {k : Nat} {C f : Addr} {ps : List Str} {E : XK} {Ct' : Ct}
abbrev rBoolO (C : Addr) (sp : Sp) (E : XK) : List V → Hp → VK → Prop := fun xs H Q => ∃ a dx fs, xs = [.ref a] ∧ H a = some (.ins C dx fs) ∧ sp [.ref a] H (fun v H' => ∃ b : Bool, v = .bl b ∧ Q (.bl b) H') E
end
section
variable {K : PySem.W.Frag} {B F0 : Hp} {ro : Ro} {ka k1 k2 kr : Cells} {ta : List (V × W)} {te tf td ty : TE} {x y : W} {C a : Addr} {fs : List (Str × D)} {b : Bool} {E : XK} {De : Ends} {u : TS}
theorem rc_boolO {Cc : Ct} {c : Bool} (kr : Cells) (l : Io (k1 ++ kr) x C fs b) (hC : Cc [x] k1 (Rt (.bl c) k1)) : RcD K (rBoolO C (spC K Cc) E) (k1 ++ kr) [x] (.val (.bl c)) := fun B F0 ro ta sg H us Q e hl hm q => by
  obtain ⟨u, rfl, hu⟩ := zip_one hl hm
  obtain ⟨a, dx, xs, rfl, ha⟩ := l.en e hu
  refine ⟨a, dx, xs, rfl, ha, sp_ret (ws := [x]) (ta := ta) (e.held fun p hp => ?_) rfl hC (fun _ _ z => z) fun v2 H' e2 => ?_⟩
  · rcases List.mem_append.mp hp with hp | hp
    · simp at hp
      rcases hp with rfl
      exact hu
    · exact hp
  · obtain rfl := e2.tm_bl List.mem_cons_self
    exact ⟨c, rfl, q _ _ e2⟩
theorem ev_boolO {Cc : Ct} {c : Bool} (h : EvD K te ro ka x k1) (l : Io k1 x C fs b) (hC : Cc [x] [] (Rt (.bl c) [])) : EvD K (tCB (rBoolO C (spC K Cc) E) (tCons te tNil)) ro ka (.val (.bl c)) k1 := ev_cb (ea1 h) (rc_boolO (k1 := []) k1 l hC)
end
end DL
namespace DL
open PySem L2 PySem.W
/-- a def with defaults, called without them or with all -/
def FnE (P : Program) (w : World) (K : PySem.W.Frag) (mg : Str → Option Value) (base : Heap) (k : Nat) (f : Addr) (ps : List Str) (dvs : List V) (C : Ct) : Prop :=
  ∃ fd, FnOk P w K mg base (L2.CX P w) k f fd ps (spC K C) ∧ (∃ ds, Vals dvs ds ∧ Binds K fd ps ds) ∧ ∃ ds, Vals [] ds ∧ Binds K fd ps ds
section
variable {P : Program} {w : World} {K : PySem.W.Frag} {mg : Str → Option Value} {base : Heap} {k : Nat} {f : Addr} {ps N : List Str} {dvs : List V} {C : Ct} {x qual : Str} {params : Arguments} {body : List Stmt} {scope : Scope} {fd : FuncData}
theorem FnE.d (F : FnE P w K mg base k f ps dvs C) : FnD P w K mg base k f ps dvs C := let ⟨fd, a, b, _⟩ := F; ⟨fd, a, b⟩
theorem FnE.a (F : FnE P w K mg base k f ps dvs C) : Fn P w K mg base k f ps C := by
  obtain ⟨fd, a, _, ds, v, b⟩ := F
  cases v
  exact ⟨fd, a, b⟩
theorem fn_okE (F : FunD K x qual params body scope dvs [] f fd) (S : FnScope N ps scope) (hb : ∃ ds, Vals dvs ds ∧ Binds K fd ps ds) (hb2 : ∃ ds, Vals [] ds ∧ Binds K fd ps ds) (hl : ∀ ws ka out, C ws ka out → ws.length = ps.length)
    (h : ∀ (cdv : Value) (A : Around) (outer : List Env) (s : Shared) (H : Hp) (E : XK), Room k (A.deeper (PyProof.Rows.envOfC qual scope s.heap.objs.size f cdv)) →
      ∃ t, PSs (cxOf (L2.CX P w) P w K mg base N qual scope f cdv A outer s H E) body t ∧
        ∀ ws ka out B F0 Q, C ws ka out → RtOk K B F0 out Q → RxOk K B F0 out E → Gp K B F0 [] (t { nx := fun _ H' => Q .non H', rt := Q }) (ws.map some ++ List.replicate (N.length - ps.length) none) ka) : FnE P w K mg base (k + 1) f ps dvs C := by
  exact ⟨fd, fn_okG F S hl h, hb, hb2⟩
end
end DL
namespace DL
open PySem L2 PySem.W
/-- an own error that the law never raises: nothing is said of its __init__ -/
def spF : Sp := fun _ _ _ _ => False
structure Xf (P : Program) (w : World) (K : PySem.W.Frag) (mg : Str → Option Value) (base : Heap) (C : Addr) : Prop where
  xc : Xc K C
  ex : ∃ fI fd ps, findIn K (.ref C) "__init__" = some (some (.ref fI)) ∧ typeIn K (.ref fI) = some (.type "function") ∧ FnOk P w K mg base (L2.CX P w) 1 fI fd ps spF ∧ Binds K fd ps []
namespace Xf
variable {P : Program} {w : World} {K : PySem.W.Frag} {mg : Str → Option Value} {base : Heap} {C : Addr}
noncomputable def fI (Z : Xf P w K mg base C) : Addr := Classical.choose Z.ex
noncomputable def fd (Z : Xf P w K mg base C) : FuncData := Classical.choose (Classical.choose_spec Z.ex)
noncomputable def px (Z : Xf P w K mg base C) : List Str := Classical.choose (Classical.choose_spec (Classical.choose_spec Z.ex))
theorem all (Z : Xf P w K mg base C) : findIn K (.ref C) "__init__" = some (some (.ref Z.fI)) ∧ typeIn K (.ref Z.fI) = some (.type "function") ∧ FnOk P w K mg base (L2.CX P w) 1 Z.fI Z.fd Z.px spF ∧ Binds K Z.fd Z.px [] :=
  Classical.choose_spec (Classical.choose_spec (Classical.choose_spec Z.ex))
end Xf
end DL

/-! EN: any cells frozen for good, returns by a word, orders of cells (own work). -/
namespace DL
open PySem L2 PySem.W
section
variable {K : PySem.W.Frag} {B F F0 H : Hp} {ro ro' : Ro} {ka kb k1 k2 k3 kr kt : Cells} {ta : List (V × W)} {sg : L2.St} {te : TE} {tt : TT} {w : W} {n : Nd} {P : L2.St → Hp → Prop} {De : Ends} {b : Bool} {Q : W → Cells → Prop}
theorem EnF.frzT (e : EnF K B F ro (k1 ++ kt) ta sg H) (kd : ∀ p ∈ kt, ndK p.2 = true) (r : RoT K kt ro ro') : Gr B F (thF F H kt) ∧ EnF K B (thF F H kt) ro' k1 ta sg H := by
  have e1 := e.th_ro kd r
  have t := e.thw kd
  have hu : uni (thF B H kt) (thF F H kt) = uni B (thF F H kt) := funext fun a => by
    unfold uni
    by_cases m : a ∈ kt.map (·.1)
    · obtain ⟨p, hp, rfl⟩ := List.mem_map.mp m
      obtain ⟨o, ho, _⟩ := ndok_kind (t.ok p hp) (kd p hp)
      rw [thF_in m, ho]
    · rw [thF_out (F := B) m]
  have hw : ∀ v w, WOk K (thF B H kt) (thF F H kt) v w → WOk K B (thF F H kt) v w := fun v w h => by
    cases w with
    | val d => exact h
    | vw d =>
      show Rp K (uni B _) d v
      rw [← hu]
      exact h
  exact ⟨t.gr e.thB, e1.nz, e1.fz, e.fr, e1.nd, fun p hp => ⟨(e1.ce p hp).1, (e.ce p (List.mem_append_left _ hp)).2.1, (e1.ce p hp).2.2⟩, e1.ln, fun i w h => let ⟨v, a, b⟩ := e1.sl i w h; ⟨v, a, hw _ _ b⟩, fun p hp => hw _ _ (e1.tm p hp)⟩
/-- the cells kt are frozen, with what stands behind them -/
theorem Gp.frzT (kt : Cells) (hp : (kr ++ kt).Perm ka) (kd : ∀ p ∈ kt, ndK p.2 = true) (r : RoT K kt ro ro') (h : Gp K B F0 ta P ro' kr) : Gp K B F0 ta P ro ka := fun sg H e => by
  obtain ⟨F, g, e⟩ := e.perm hp
  obtain ⟨g2, e2⟩ := e.frzT kd r
  exact h sg H ⟨_, g.trans g2, e2⟩
/-- a return of which a word tells -/
theorem g_retE {out : Oc} (hr : RtOk K B F0 out De.rt) (h : EvR K te ro ka Q) (o : ∀ w k, Q w k → ∃ d, w = .val d ∧ out (.ret d) k) : Gp K B F0 ta (tRet te De) ro ka := fun sg H e => h B F0 ta sg H _ e fun w k v H' q e' => by
  obtain ⟨d, rfl, ho⟩ := o w k q
  exact hr d k v H' ho e'.leave
theorem EvD.pm (h : EvD K te ro k1 w k2) (s1 : k1.Perm ka) (s2 : k2.Perm kb) : EvD K te ro ka w kb := fun B F0 ta sg H Q e q => h B F0 ta sg H Q (e.perm s1) fun v H' e' => q v H' (e'.perm s2.symm)
theorem EvT.pm (h : EvT K tt ro k1 b k2) (s1 : k1.Perm ka) (s2 : k2.Perm kb) : EvT K tt ro ka b kb := fun B F0 ta sg H Q e q => h B F0 ta sg H Q (e.perm s1) fun H' e' => q H' (e'.perm s2.symm)
theorem EvR.pm (h : EvR K te ro k1 Q) (s1 : k1.Perm ka) : EvR K te ro ka Q := fun B F0 ta sg H Q e q => h B F0 ta sg H Q (e.perm s1) q
theorem EvR.fr {P2 : W → Cells → Prop} (h : EvR K te ro k1 P2) (kr : Cells) (hP : ∀ w k, P2 w k → ∃ d, w = .val d) : EvR K te ro (k1 ++ kr) (fun w k => ∃ k0, P2 w k0 ∧ k = k0 ++ kr) := fun B F0 ta sg H Q e q => by
  obtain ⟨F, g, e⟩ := e
  refine h (off H k1) F [] sg H _ ⟨F, Gr.refl _ _, e.into e.ln (fun i w h => e.sl i w h) (fun p hp => by cases hp)⟩ fun w k v H' p e' => ?_
  obtain ⟨F', g', e'⟩ := e'
  obtain ⟨d, rfl⟩ := hP w k p
  obtain ⟨g2, e2⟩ := e.back g' e' (tb := (v, .val d) :: ta) fun p hp => by
    rcases List.mem_cons.mp hp with rfl | hp
    · exact .inr ⟨d, rfl, List.mem_cons_self⟩
    · exact .inl hp
  exact q _ _ v H' ⟨k, p, rfl⟩ ⟨F', g.trans g2, e2⟩
end
end DL
namespace DL
open PySem L2 PySem.W
section
variable {K : PySem.W.Frag} {ro : Ro} {ka k1 k2 : Cells} {ty td : TE} {P : W → Cells → Prop}
/-- text not in d, d told by a word -/
theorem ev_dniR {s : Str} {bb : Bool} (h : EvD K ty ro ka (.val (.str s)) k1) (h2 : EvR K td ro k1 P) (hP : ∀ w k, P w k → k = k2 ∧ ∃ ds b, Dk k w ds b ∧ (getT ds (.inr s)).isSome = bb) : EvD K (tDNotIn ty td) ro ka (.val (.bl (!bb))) k2 := fun B F0 ta sg H Q e q =>
  h B F0 ta sg H _ e fun u H1 e1 => h2 B F0 _ sg H1 _ e1 fun w k v H2 p e2 => by
    obtain ⟨rfl, ds, b, l, hb⟩ := hP w k p
    obtain rfl := e2.tm_str (v := u) (i := s) (List.mem_cons_of_mem _ List.mem_cons_self)
    obtain ⟨F, a, xs, g, ef, rfl, h3, h4⟩ := e2.dk l List.mem_cons_self
    have hg := (rpk_pt.mp h4).get (.inr s)
    have hx : (getT xs (.inr s)).isSome = bb := by
      rw [← hb]
      cases hd : getT ds (.inr s) with
      | none => rw [hg.1 hd]; rfl
      | some d => obtain ⟨x, hx, _⟩ := hg.2 d hd; rw [hx]; rfl
    refine ⟨a, getT xs (.inr s), rfl, .inl ⟨xs, .inr s, h3, rfl, rfl⟩, q _ _ ?_⟩
    rw [hx]
    exact (e2.held (ta' := ta) fun p hp => List.mem_cons_of_mem _ (List.mem_cons_of_mem _ hp)).push_imm fun _ => rfl
end
end DL
namespace DL
open PySem L2 PySem.W
section
variable {K : PySem.W.Frag} {B F0 : Hp} {ro : Ro} {ka k1 k2 : Cells} {ta : List (V × W)} {tt tu : TT} {De : Ends} {t t' u : TS} {R : Bool → Cells → Prop} {a b : Bool}
end
end DL
namespace DL
open PySem L2 PySem.W
section
variable {K : PySem.W.Frag} {ro : Ro} {ka k1 k2 : Cells} {te : TE} {tr : TA} {C C1 : Addr} {gs : List (Str × D)} {E : XK} {ws : List W} {Cc : Ct}
end
end DL
namespace DL
open PySem L2 PySem.W
section
variable {K : PySem.W.Frag} {ro : Ro} {ka k1 k2 : Cells} {te : TE} {tt : TT} {C : Addr} {fs : List (Str × D)} {b : Bool} {w : W} {E : XK} {Cc : Ct} {P : W → Cells → Prop} {R : Bool → Cells → Prop}
end
end DL


/-! EP: comprehensions over pairs; isinstance of several types (own work). -/
namespace DL
open PySem L2 PySem.W
section
variable {K : PySem.W.Frag} {B F F0 : Hp} {ro : Ro} {ka k1 : Cells} {ta : List (V × W)} {sg : L2.St} {H : Hp} {te : TE} {tt : TT} {d1 d2 : D} {j l : Nat}
end
section
variable {K : PySem.W.Frag} {ro : Ro} {ka k1 k2 : Cells} {te tf : TE} {w : W}
/-- the type of what w stands for, wherever it is asked -/
def TwX (K : PySem.W.Frag) (ka : Cells) (w : W) (t : Value) : Prop := ∀ B F0 ro ta sg H v, En K B F0 ro ka ta sg H → (v, w) ∈ ta → TyX K H v t
theorem Tw.x {t : Value} (l : Tw K ka w t) : TwX K ka w t := fun _ _ _ _ _ _ _ e h => l.at e h
end
end DL
namespace DL
open PySem L2 PySem.W
theorem evn_filt_to {K : PySem.W.Frag} {ro : Ro} {ka k1 : Cells} {te : TE} {ds es : List D} (h : EvN K te ro ka (.lst ds) k1) (e : ds = es) : EvN K te ro ka (.lst es) k1 := e ▸ h
end DL
namespace DL
open PySem L2 PySem.W
section
variable {K : PySem.W.Frag} {ro : Ro} {ka k1 k2 : Cells} {te : TE} {tr : TA} {w : W} {C C1 : Addr} {fs : List (Str × D)} {b : Bool} {E : XK} {Cc : Ct} {ws : List W}
end
end DL

/-! EQ: for over a list of which a word tells (own work). -/
namespace DL
open PySem L2 PySem.W
section
variable {K : PySem.W.Frag} {B F F0 : Hp} {ro : Ro} {ka k1 k2 k3 kr : Cells} {ta : List (V × W)} {sg : L2.St} {H H' : Hp} {te tf tg : TE} {w x y z : W} {n : Nd} {P P2 : W → Cells → Prop} {De : Ends} {u : TS} {r : R2}
theorem RvN.lstR {ds : List D} (h : RvN K r ka x y (.lst ds)) : RvR K r ka x y (fun w k => w = .val (.lst ds) ∧ k = ka) := fun B F0 ro ta sg H u v Q e h1 h2 q => h B F0 ro ta sg H u v Q e h1 h2 fun a H' e' => q _ _ _ H' ⟨rfl, rfl⟩ e'.freeze_l
/-- f(e, e2), e2 and the call's end told by words -/
theorem evr_call2R {Cc : Ct} {k0 : Cells} {E : XK} (h1 : EvD K te ro ka x k0) (h2 : EvR K tf ro k0 P) (h : ∀ y k, P y k → ∃ k1 kr out, k = k1 ++ kr ∧ Cc [x, y] k1 out ∧ (∀ o k, out o k → ∃ d, o = .ret d) ∧ ∀ d k2, out (.ret d) k2 → P2 (.val d) (k2 ++ kr)) :
    EvR K (tCall (spC K Cc) [] E (tCons te (tCons tf tNil))) ro ka P2 := fun B F0 ta sg H Q e q =>
  h1 B F0 ta sg H _ e fun u H1 e1 => h2 B F0 _ sg H1 _ e1 fun y k v H2 p e2 => by
    obtain ⟨k1, kr, out, rfl, hC, ho, hp⟩ := h y k p
    refine sp_rel (kr := kr) (vs := [u, v]) (ws := [x, y]) (ta := ta) (e2.held fun p h => ?_) rfl hC ho fun d k2 v' H' o e4 => q _ _ v' H' (hp d k2 o) e4
    have h' : p ∈ (u, x) :: (v, y) :: ta := h
    rcases List.mem_cons.mp h' with rfl | h'
    · exact List.mem_cons_of_mem _ List.mem_cons_self
    · rcases List.mem_cons.mp h' with rfl | h'
      · exact List.mem_cons_self
      · exact List.mem_cons_of_mem _ (List.mem_cons_of_mem _ h')
/-- o.m(..) raises, the net's cells in hand -/
theorem evx_meth {m : Str} {E E' : XK} {C C1 : Addr} {fs gs : List (Str × D)} {b : Bool} {Cc : Ct} {ws : List W} {tr : TA} (kr : Cells) (h : EvD K te ro ka w k1) (l : Io k1 w C fs b) (hm : fs.lookup m = none) (ha : EvA K tr ro k1 ws (k2 ++ kr)) (hC : Cc (w :: ws) k2 (Xt C1 gs k3)) (hE : E' = E) : EvX K (tMeth C m (spC K Cc) [] E' te tr) ro ka E C1 gs (k3 ++ kr) := fun B F0 ta sg H Q e q => by
  subst hE
  refine h B F0 ta sg H _ e fun v H1 e1 => ?_
  obtain ⟨F, g, ef⟩ := id e1
  obtain ⟨a, dx, xs, rfl, ha1, rx⟩ := l.get ef (ef.tm _ List.mem_cons_self)
  refine ⟨a, dx, xs, rfl, ha1, rpf_none rx hm, ha B F0 _ sg H1 _ e1 fun vs H2 hl e2 => ?_⟩
  rw [List.append_nil]
  refine sp_exc (ws := w :: ws) (vs := .ref a :: vs) (kr := kr) (ta := ta) (e2.held fun p hp => ?_) (by rw [List.length_cons, List.length_cons, hl]) hC (fun _ _ z => z) fun dx H' e3 => q dx H' (e3.perm ?_)
  · have hp' : p ∈ (V.ref a, w) :: (vs.zip ws ++ ta) := hp
    rcases List.mem_cons.mp hp' with rfl | hp
    · exact List.mem_append_right _ List.mem_cons_self
    · rcases List.mem_append.mp hp with hp | hp
      · exact List.mem_append_left _ hp
      · exact List.mem_append_right _ (List.mem_cons_of_mem _ hp)
  · rw [List.append_assoc, List.append_assoc]
    exact List.Perm.append_left _ List.perm_append_comm
end
end DL

/-! ES: what the courses' laws want (own work). -/
namespace DL
open PySem L2 PySem.W
/-! an object made where the wish of an exception may speak of the slots -/
section
variable {X : Cx} {CX : CXT} {k : Nat} {C f : Addr} {fd : FuncData} {ps : List Str} {sp : Sp} {dvs : List V} {ds : List Value}
end
section
variable {K : PySem.W.Frag} {B F0 : Hp} {ro : Ro} {ka k1 k2 k3 : Cells} {ta : List (V × W)} {te tf tg : TE} {tt : TT} {De : Ends} {t u : TS} {w x y : W}
/-- arguments told by a word -/
def EvAR (K : PySem.W.Frag) (tr : TA) (ro : Ro) (ka : Cells) (R : List W → Cells → Prop) : Prop := ∀ B F0 ta sg H (Q : List V → Hp → Prop), En K B F0 ro ka ta sg H → (∀ ws k vs H', R ws k → vs.length = ws.length → En K B F0 ro k (vs.zip ws ++ ta) sg H' → Q vs H') → tr sg H Q
theorem ear_cons {tr : TA} {P : W → Cells → Prop} {R : W → List W → Cells → Prop} (h : EvR K te ro ka P) (hr : ∀ w k, P w k → EvAR K tr ro k (R w)) : EvAR K (tCons te tr) ro ka (fun ws k => ∃ w ws', ws = w :: ws' ∧ R w ws' k) := fun B F0 ta sg H Q e q =>
  h B F0 ta sg H _ e fun w k1 u H1 p e1 => hr w k1 p B F0 _ sg H1 _ e1 fun ws k2 vs H2 r hl e2 => q (w :: ws) k2 (u :: vs) H2 ⟨w, ws, rfl, r⟩ (by rw [List.length_cons, List.length_cons, hl]) (e2.held fun p hp => by
    have hp' : p ∈ (u, w) :: (vs.zip ws ++ ta) := hp
    rcases List.mem_cons.mp hp' with rfl | h
    · exact List.mem_append_right _ List.mem_cons_self
    · rcases List.mem_append.mp h with h | h
      · exact List.mem_append_left _ h
      · exact List.mem_append_right _ (List.mem_cons_of_mem _ h))
theorem ear_cD {tr : TA} {R : List W → Cells → Prop} (h : EvD K te ro ka w k1) (hr : EvAR K tr ro k1 R) : EvAR K (tCons te tr) ro ka (fun ws k => ∃ ws', ws = w :: ws' ∧ R ws' k) := fun B F0 ta sg H Q e q =>
  h B F0 ta sg H _ e fun u H1 e1 => hr B F0 _ sg H1 _ e1 fun ws k2 vs H2 r hl e2 => q (w :: ws) k2 (u :: vs) H2 ⟨ws, rfl, r⟩ (by rw [List.length_cons, List.length_cons, hl]) (e2.held fun p hp => by
    have hp' : p ∈ (u, w) :: (vs.zip ws ++ ta) := hp
    rcases List.mem_cons.mp hp' with rfl | h
    · exact List.mem_append_right _ List.mem_cons_self
    · rcases List.mem_append.mp h with h | h
      · exact List.mem_append_left _ h
      · exact List.mem_append_right _ (List.mem_cons_of_mem _ h))
theorem EvA.toR {tr : TA} {ws : List W} (h : EvA K tr ro ka ws k1) : EvAR K tr ro ka (fun ws' k => ws' = ws ∧ k = k1) := fun B F0 ta sg H Q e q => h B F0 ta sg H _ e fun vs H' hl e' => q ws k1 vs H' ⟨rfl, rfl⟩ hl e'
theorem EvAR.imp {tr : TA} {R R2 : List W → Cells → Prop} (h : EvAR K tr ro ka R) (i : ∀ ws k, R ws k → R2 ws k) : EvAR K tr ro ka R2 := fun B F0 ta sg H Q e q => h B F0 ta sg H Q e fun ws k vs H' r => q ws k vs H' (i ws k r)
/-- a call, arguments and end told by words -/
theorem evr_callAR {tr : TA} {Cc : Ct} {E : XK} {R : List W → Cells → Prop} {P2 : W → Cells → Prop} (ha : EvAR K tr ro ka R) (hC : ∀ ws k, R ws k → ∃ (ka' k1 kr : Cells) (out : Oc), ka'.Perm k ∧ ka' = k1 ++ kr ∧ Cc ws k1 out ∧ (∀ o k, out o k → ∃ d, o = .ret d) ∧ ∀ d k2, out (.ret d) k2 → P2 (.val d) (k2 ++ kr)) :
    EvR K (tCall (spC K Cc) [] E tr) ro ka P2 := fun B F0 ta sg H Q e q =>
  ha B F0 ta sg H _ e fun ws k vs H1 r hl e1 => by
    obtain ⟨ka', k1, kr, out, s, rfl, c, ho, hO⟩ := hC ws k r
    rw [List.append_nil]
    exact sp_rel (e1.perm s) hl c ho fun d k2 v H' o e2 => q _ _ v H' (hO d k2 o) e2
/-- what raises lets the def end so -/
theorem g_dropP {out : Oc} {E : XK} {C1 : Addr} {gs : List (Str × D)} (hX : RxOk K B F0 out E) (h : EvX K te ro ka E C1 gs k2) (o : out (.exc C1 gs) k2) : Gp K B F0 ta (tDrop te De) ro ka := fun sg H e => h B F0 ta sg H _ e fun dx H' e' => hX.1 C1 gs k2 dx H' o e'.leaveX
theorem q_dropP {out : Oc} {E : XK} {C1 : Addr} {gs : List (Str × D)} (hX : RxOk K B F0 out E) (h : EvX K te ro ka E C1 gs k2) (o : out (.exc C1 gs) k2) : Gp K B F0 ta (tSeq (tDrop te) u De) ro ka := g_dropP (De := { De with nx := u De }) hX h o
theorem g_asgP {g : TG} {out : Oc} {E : XK} {C1 : Addr} {gs : List (Str × D)} (hX : RxOk K B F0 out E) (h : EvX K te ro ka E C1 gs k2) (o : out (.exc C1 gs) k2) : Gp K B F0 ta (tAsg te g De) ro ka := fun sg H e => h B F0 ta sg H _ e fun dx H' e' => hX.1 C1 gs k2 dx H' o e'.leaveX
theorem q_asgP {g : TG} {out : Oc} {E : XK} {C1 : Addr} {gs : List (Str × D)} (hX : RxOk K B F0 out E) (h : EvX K te ro ka E C1 gs k2) (o : out (.exc C1 gs) k2) : Gp K B F0 ta (tSeq (tAsg te g) u De) ro ka := g_asgP (De := { De with nx := u De }) hX h o
theorem EvR.rp {P P2 : W → Cells → Prop} (h : EvR K te ro ka P) (hP : ∀ w k, P w k → ∃ k', P2 w k' ∧ k'.Perm k) : EvR K te ro ka P2 := fun B F0 ta sg H Q e q => h B F0 ta sg H Q e fun w k v H' p e' =>
  let ⟨k', p2, s⟩ := hP w k p
  q w k' v H' p2 (e'.perm s)
/-- an object made, cells beside -/
theorem evr_makeF {tr : TA} {Cc : Ct} {C : Addr} {ws wd : List W} {dvs : List V} {E : XK} {P : W → Cells → Prop} (kr : Cells) (ha : EvA K tr ro ka ws (k1 ++ kr)) (hd : DvOk K dvs wd)
    (hC : ∀ a, ∃ out, Cc (.val (.adr a) :: (ws ++ wd)) (k1 ++ [(a, .ins C [])]) out ∧ ∀ o k, out o k → o = .ret .non ∧ P (.val (.adr a)) (k ++ kr)) : EvR K (tMake C (spC K Cc) dvs E tr) ro ka P := fun B F0 ta sg H Q e q =>
  ha B F0 ta sg H _ e fun vs H1 hl e1 => by
    intro x dx hx hdx hne
    obtain ⟨F, g, e1⟩ := e1
    obtain ⟨e2, g2⟩ := e1.lay (o := .own x) hdx rfl
    have hx2 : upd H1 dx (.own x) x = none := by rw [upd_ne (Ne.symm hne)]; exact hx
    have e3 := e2.cell (o := .ins C dx []) hx2 (n := .ins C []) ⟨dx, [], upd_same, rfl⟩
    obtain ⟨out, hC, ho⟩ := hC x
    have e4 : En K B F0 ro ((k1 ++ [(x, .ins C [])]) ++ kr) (dvs.zip wd ++ (vs.zip ws ++ ta)) sg (upd (upd H1 dx (.own x)) x (.ins C dx [])) := by
      refine En.perm (En.more ⟨_, g.trans g2, e3⟩ hd) ?_
      rw [List.append_assoc, List.append_assoc]
      exact List.Perm.append_left _ List.perm_append_comm
    have hlen : (V.ref x :: (vs ++ dvs)).length = (W.val (.adr x) :: (ws ++ wd)).length := by rw [List.length_cons, List.length_cons, List.length_append, List.length_append, hl, hd.1]
    have hz : (V.ref x :: (vs ++ dvs)).zip (W.val (.adr x) :: (ws ++ wd)) = (V.ref x, W.val (.adr x)) :: (vs.zip ws ++ dvs.zip wd) := by rw [List.zip_cons_cons, List.zip_append hl]
    have e5 : En K B F0 ro ((k1 ++ [(x, .ins C [])]) ++ kr) ((V.ref x :: (vs ++ dvs)).zip (W.val (.adr x) :: (ws ++ wd)) ++ ta) sg (upd (upd H1 dx (.own x)) x (.ins C dx [])) := by
      rw [hz]
      refine (e4.push_imm (v := .ref x) (w := .val (.adr x)) fun _ => rfl).held fun p hp => ?_
      rcases List.mem_cons.mp hp with rfl | hp
      · exact List.mem_cons_self
      · refine List.mem_cons_of_mem _ ?_
        rcases List.mem_append.mp hp with hp | hp
        · rcases List.mem_append.mp hp with hp | hp
          · exact List.mem_append_right _ (List.mem_append_left _ hp)
          · exact List.mem_append_left _ hp
        · exact List.mem_append_right _ (List.mem_append_right _ hp)
    refine sp_rel (kr := kr) e5 hlen hC (fun o k h => ⟨_, (ho o k h).1⟩) fun d k2 v H' o e6 => ?_
    obtain ⟨he, p⟩ := ho _ _ o
    cases he
    exact ⟨e6.tm_non List.mem_cons_self, q _ _ (.ref x) H' p (e6.pop.push_imm fun _ => rfl)⟩
end
section
variable {P : Program} {w : World} {K : PySem.W.Frag} {mg : Str → Option Value} {base : Heap} {k : Nat} {x qual : Str} {N ps : List Str} {params : Arguments} {body : List Stmt} {scope : Scope} {f : Addr} {fd : FuncData} {C : Ct}
end
section
variable {K : PySem.W.Frag} {B F0 : Hp} {ro : Ro} {ka k1 k2 k3 : Cells} {te tf : TE} {w : W}
theorem list_snoc_ind {α : Type} {P : List α → Prop} (nil : P []) (snoc : ∀ (xs : List α) (x : α), P xs → P (xs ++ [x])) (xs : List α) : P xs := by
  have key : ∀ ys : List α, P ys.reverse := by
    intro ys
    induction ys with
    | nil => exact nil
    | cons y ys ih => rw [List.reverse_cons]; exact snoc _ _ ih
  have := key xs.reverse
  rwa [List.reverse_reverse] at this
end
end DL

/-! EU: lanes joined along a search for a way that joins one more (own work): plain lists. -/
namespace DL
open PySem L2 PySem.W
/-! a table of texts -/
abbrev Tb := List (Str × Str)
def getS (fo : Tb) (o : Str) : Option Str := (fo.find? fun p => decide (p.1 = o)).map (·.2)
def putS (fo : Tb) (o u : Str) : Tb := if o ∈ fo.map (·.1) then fo.map fun p => if p.1 = o then (o, u) else p else fo ++ [(o, u)]
theorem getS_some {fo : Tb} {o w : Str} (h : getS fo o = some w) : (o, w) ∈ fo := by
  unfold getS at h
  obtain ⟨p, h1, rfl⟩ := Option.map_eq_some_iff.mp h
  have h2 := List.find?_some h1
  have h3 := of_decide_eq_true h2
  subst h3
  exact List.mem_of_find?_eq_some h1
theorem getS_none {fo : Tb} {o : Str} : getS fo o = none ↔ ¬ o ∈ fo.map (·.1) := by
  unfold getS
  rw [Option.map_eq_none_iff, List.find?_eq_none]
  constructor
  · intro h z
    obtain ⟨p, h1, rfl⟩ := List.mem_map.mp z
    exact h p h1 (decide_eq_true rfl)
  · intro h p hp z
    exact h (List.mem_map.mpr ⟨p, hp, of_decide_eq_true z⟩)
theorem getS_mem {fo : Tb} (hn : (fo.map (·.1)).Nodup) {o w : Str} (h : (o, w) ∈ fo) : getS fo o = some w := by
  cases hg : getS fo o with
  | none => exact absurd (List.mem_map.mpr ⟨_, h, rfl⟩) (getS_none.mp hg)
  | some v =>
    have h2 := getS_some hg
    induction fo with
    | nil => cases h
    | cons p l ih =>
      have hn2 := List.nodup_cons.mp hn
      rcases List.mem_cons.mp h with e1 | h1
      · rcases List.mem_cons.mp h2 with e2 | h3
        · rw [← e1] at e2
          cases e2; rfl
        · exact absurd (List.mem_map.mpr ⟨(o, v), h3, by rw [← e1]⟩ : p.1 ∈ l.map (·.1)) hn2.1
      · rcases List.mem_cons.mp h2 with e2 | h3
        · exact absurd (List.mem_map.mpr ⟨(o, w), h1, by rw [← e2]⟩ : p.1 ∈ l.map (·.1)) hn2.1
        · have e : getS (p :: l) o = getS l o := by
            have ne : ¬ p.1 = o := fun z => hn2.1 (List.mem_map.mpr ⟨(o, w), h1, z.symm⟩)
            unfold getS
            rw [List.find?_cons_of_neg (by simp [ne])]
          rw [e] at hg
          exact ih hn2.2 h1 hg h3
theorem putS_keys {fo : Tb} {o u : Str} : (putS fo o u).map (·.1) = if o ∈ fo.map (·.1) then fo.map (·.1) else fo.map (·.1) ++ [o] := by
  unfold putS
  split
  · rw [List.map_map]
    refine List.map_congr_left fun p _ => ?_
    show (if p.1 = o then (o, u) else p).1 = p.1
    split
    · rename_i h; exact h.symm
    · rfl
  · rw [List.map_append]; rfl
theorem putS_nd {fo : Tb} {o u : Str} (hn : (fo.map (·.1)).Nodup) : ((putS fo o u).map (·.1)).Nodup := by
  rw [putS_keys]
  split
  · exact hn
  · rename_i h
    rw [List.nodup_append]
    exact ⟨hn, List.nodup_cons.mpr ⟨List.not_mem_nil, List.nodup_nil⟩, fun x hx y hy z => h (by rw [List.mem_singleton.mp hy] at z; rw [← z]; exact hx)⟩
theorem putS_has {fo : Tb} {o u x : Str} : x ∈ (putS fo o u).map (·.1) ↔ x = o ∨ x ∈ fo.map (·.1) := by
  rw [putS_keys]
  split
  · rename_i h
    constructor
    · exact .inr
    · rintro (rfl | h2)
      · exact h
      · exact h2
  · rw [List.mem_append, List.mem_singleton]
    exact Or.comm
theorem putS_mem {fo : Tb} {o u x w : Str} (h : (x, w) ∈ putS fo o u) : (x = o ∧ w = u) ∨ (x, w) ∈ fo := by
  unfold putS at h
  split at h
  · obtain ⟨p, h1, h2⟩ := List.mem_map.mp h
    split at h2
    · cases h2; exact .inl ⟨rfl, rfl⟩
    · rw [← h2]; exact .inr h1
  · rcases List.mem_append.mp h with h | h
    · exact .inr h
    · cases List.mem_singleton.mp h; exact .inl ⟨rfl, rfl⟩
theorem getS_other {fo : Tb} {o u x : Str} (h : x ≠ o) : getS (putS fo o u) x = getS fo x := by
  unfold getS putS
  split
  · have key : ∀ l : Tb, ((l.map fun p => if p.1 = o then (o, u) else p).find? fun p => decide (p.1 = x)).map (·.2) = (l.find? fun p => decide (p.1 = x)).map (·.2) := by
      intro l
      induction l with
      | nil => rfl
      | cons p l ih =>
        rw [List.map_cons]
        by_cases e : p.1 = o
        · rw [if_pos e, List.find?_cons_of_neg (by simp [Ne.symm h]), List.find?_cons_of_neg (by rw [e]; simp [Ne.symm h])]
          exact ih
        · rw [if_neg e]
          by_cases e2 : p.1 = x
          · rw [List.find?_cons_of_pos (by simp [e2]), List.find?_cons_of_pos (by simp [e2])]
          · rw [List.find?_cons_of_neg (by simp [e2]), List.find?_cons_of_neg (by simp [e2])]
            exact ih
    exact key fo
  · rw [List.find?_append]
    have : ([(o, u)] : Tb).find? (fun p => decide (p.1 = x)) = none := by rw [List.find?_cons_of_neg (by simp [Ne.symm h])]; rfl
    rw [this, Option.or_none]
/-- the values behind a put -/
theorem putS_vals {fo : Tb} {o u w : Str} (hn : (fo.map (·.1)).Nodup) (h : getS fo o = some w) : (w :: (putS fo o u).map (·.2)).Perm (u :: fo.map (·.2)) := by
  have hm := getS_some h
  have hk : o ∈ fo.map (·.1) := List.mem_map.mpr ⟨_, hm, rfl⟩
  unfold putS
  rw [if_pos hk]
  clear h hk
  induction fo with
  | nil => cases hm
  | cons p l ih =>
    have hn2 := List.nodup_cons.mp hn
    rcases List.mem_cons.mp hm with e | hm
    · subst e
      rw [List.map_cons, List.map_cons, List.map_cons, if_pos rfl]
      have e2 : (l.map fun p => if p.1 = o then (o, u) else p) = l := by
        have : ∀ q ∈ l, (if q.1 = o then (o, u) else q) = q := fun q hq => if_neg fun z => hn2.1 (List.mem_map.mpr ⟨q, hq, z⟩)
        exact (List.map_congr_left this).trans (List.map_id _)
      rw [e2]
      exact List.Perm.swap _ _ _
    · have ne : ¬ p.1 = o := fun z => hn2.1 (List.mem_map.mpr ⟨_, hm, z.symm⟩)
      rw [List.map_cons, List.map_cons, List.map_cons, if_neg ne]
      exact (List.Perm.swap _ _ _).trans (((ih hn2.2 hm).cons _).trans (List.Perm.swap _ _ _))
theorem putS_valsN {fo : Tb} {o u : Str} (h : getS fo o = none) : (putS fo o u).map (·.2) = fo.map (·.2) ++ [u] := by
  unfold putS
  rw [if_neg (getS_none.mp h), List.map_append]
  rfl
/-! the search -/
structure Js where
  fo : Tb
  tr : List Str
def augL (rec : Str → Js → Bool × Js) (u : Str) : List Str → Js → Bool × Js
  | [], s => (false, s)
  | o :: os, s => if o ∈ s.tr then augL rec u os s else
    match getS s.fo o with
    | none => (true, ⟨putS s.fo o u, s.tr ++ [o]⟩)
    | some w => match rec w ⟨s.fo, s.tr ++ [o]⟩ with
      | (true, s2) => (true, ⟨putS s2.fo o u, s2.tr⟩)
      | (false, s2) => augL rec u os s2
def aug (bh : Str → List Str) : Nat → Str → Js → Bool × Js
  | 0, _, s => (false, s)
  | n + 1, u, s => augL (aug bh n) u (bh u) s
/-- what a search leaves: what was tried stays; tried ones keep their place; without success all stays -/
structure Ag (s : Js) (r : Bool × Js) : Prop where
  tr : ∀ x ∈ s.tr, x ∈ r.2.tr
  keep : ∀ x ∈ s.tr, getS r.2.fo x = getS s.fo x
  fail : r.1 = false → r.2.fo = s.fo
  nd : (s.fo.map (·.1)).Nodup → (r.2.fo.map (·.1)).Nodup
theorem ag_L {rec : Str → Js → Bool × Js} (hr : ∀ w s, Ag s (rec w s)) (u : Str) : ∀ (os : List Str) (s : Js), Ag s (augL rec u os s)
  | [], s => ⟨fun _ h => h, fun _ _ => rfl, fun _ => rfl, fun h => h⟩
  | o :: os, s => by
    unfold augL
    split
    · exact ag_L hr u os s
    · rename_i hno
      split
      · exact ⟨fun x h => List.mem_append_left _ h, fun x h => getS_other fun z => hno (by rw [← z]; exact h), fun z => (by cases z), putS_nd⟩
      · rename_i w hw
        have a := hr w ⟨s.fo, s.tr ++ [o]⟩
        split
        · rename_i s2 e
          rw [e] at a
          refine ⟨fun x h => a.tr x (List.mem_append_left _ h), fun x h => ?_, fun z => (by cases z), fun h => putS_nd (a.nd h)⟩
          exact (getS_other fun z => hno (by rw [← z]; exact h)).trans (a.keep x (List.mem_append_left _ h))
        · rename_i s2 e
          rw [e] at a
          have b := ag_L hr u os s2
          refine ⟨fun x h => b.tr x (a.tr x (List.mem_append_left _ h)), fun x h => (b.keep x (a.tr x (List.mem_append_left _ h))).trans (a.keep x (List.mem_append_left _ h)), fun z => (b.fail z).trans (a.fail rfl), fun h => b.nd (a.nd h)⟩
theorem ag_all (bh : Str → List Str) : ∀ (n : Nat) (u : Str) (s : Js), Ag s (aug bh n u s)
  | 0, u, s => ⟨fun _ h => h, fun _ _ => rfl, fun _ => rfl, fun h => h⟩
  | n + 1, u, s => ag_L (ag_all bh n) u (bh u) s
/-- success: u has a place more -/
theorem aug_vals (bh : Str → List Str) : ∀ (n : Nat) (u : Str) (s s' : Js), (s.fo.map (·.1)).Nodup → aug bh n u s = (true, s') → (s'.fo.map (·.2)).Perm (u :: s.fo.map (·.2))
  | 0, u, s, s', _, h => by cases h
  | n + 1, u, s, s', hn, h => by
    have key : ∀ (os : List Str) (s : Js), (s.fo.map (·.1)).Nodup → augL (aug bh n) u os s = (true, s') → (s'.fo.map (·.2)).Perm (u :: s.fo.map (·.2)) := by
      intro os
      induction os with
      | nil => intro s _ h; cases h
      | cons o os ih =>
        intro s hn h
        unfold augL at h
        split at h
        · exact ih s hn h
        · split at h
          · rename_i hg
            cases h
            show ((putS s.fo o u).map (·.2)).Perm _
            rw [putS_valsN hg]
            exact List.perm_append_comm
          · rename_i w hw
            have a := ag_all bh n w ⟨s.fo, s.tr ++ [o]⟩
            split at h
            · rename_i s2 e
              cases h
              have ihv := aug_vals bh n w ⟨s.fo, s.tr ++ [o]⟩ _ hn e
              rw [e] at a
              have hk : getS s2.fo o = some w := (a.keep o (List.mem_append_right _ (List.mem_singleton.mpr rfl))).trans hw
              have p1 := putS_vals (u := u) (a.nd hn) hk
              exact (List.Perm.cons_inv (a := w) (p1.trans ((ihv.cons u).trans (List.Perm.swap _ _ _))))
            · rename_i s2 e
              rw [e] at a
              have hf : s2.fo = s.fo := a.fail rfl
              have := ih s2 (a.nd hn) h
              rwa [hf] at this
    exact key _ _ hn h
/-- all pairs are of the relation -/
theorem aug_edge {bh : Str → List Str} : ∀ (n : Nat) (u : Str) (s : Js), (∀ p ∈ s.fo, p.1 ∈ bh p.2) → ∀ p ∈ (aug bh n u s).2.fo, p.1 ∈ bh p.2
  | 0, u, s, h => h
  | n + 1, u, s, h => by
    have key : ∀ (os : List Str) (s : Js), (∀ o ∈ os, o ∈ bh u) → (∀ p ∈ s.fo, p.1 ∈ bh p.2) → ∀ p ∈ (augL (aug bh n) u os s).2.fo, p.1 ∈ bh p.2 := by
      intro os
      induction os with
      | nil => intro s _ h; exact h
      | cons o os ih =>
        intro s hos h
        have put : ∀ fo : Tb, (∀ p ∈ fo, p.1 ∈ bh p.2) → ∀ p ∈ putS fo o u, p.1 ∈ bh p.2 := fun fo hf p hp => by
          rcases putS_mem (x := p.1) (w := p.2) hp with ⟨e1, e2⟩ | hp
          · rw [e1, e2]; exact hos o List.mem_cons_self
          · exact hf _ hp
        unfold augL
        split
        · exact ih s (fun x hx => hos x (List.mem_cons_of_mem _ hx)) h
        · split
          · exact put _ h
          · rename_i w hw
            have hr := aug_edge n w ⟨s.fo, s.tr ++ [o]⟩ h
            split
            · rename_i s2 e
              rw [e] at hr
              exact put _ hr
            · rename_i s2 e
              rw [e] at hr
              exact ih s2 (fun x hx => hos x (List.mem_cons_of_mem _ hx)) hr
    exact key _ _ (fun _ h => h) h
/-- T is closed: each of T has a place, and what is behind that one is in T -/
def Cl (bh : Str → List Str) (fo : Tb) (T : List Str) : Prop := ∀ o ∈ T, ∃ w, getS fo o = some w ∧ ∀ x ∈ bh w, x ∈ T
/-- no search leaves a closed set -/
theorem aug_cl {bh : Str → List Str} {T : List Str} : ∀ (n : Nat) (u : Str) (s : Js), Cl bh s.fo T → (∀ x ∈ bh u, x ∈ T) → (aug bh n u s).1 = false
  | 0, u, s, _, _ => rfl
  | n + 1, u, s, hc, hu => by
    have key : ∀ (os : List Str) (s : Js), (∀ o ∈ os, o ∈ T) → Cl bh s.fo T → (augL (aug bh n) u os s).1 = false := by
      intro os
      induction os with
      | nil => intro s _ _; rfl
      | cons o os ih =>
        intro s hos hc
        have hos2 : ∀ x ∈ os, x ∈ T := fun x hx => hos x (List.mem_cons_of_mem _ hx)
        obtain ⟨w, hw, hb⟩ := hc o (hos o List.mem_cons_self)
        unfold augL
        rw [hw]
        dsimp only
        split
        · exact ih s hos2 hc
        · have hr := aug_cl n w ⟨s.fo, s.tr ++ [o]⟩ hc hb
          have a := ag_all bh n w ⟨s.fo, s.tr ++ [o]⟩
          split
          · rename_i s2 e
            rw [e] at hr
            cases hr
          · rename_i s2 e
            rw [e] at a
            exact ih s2 hos2 (by rw [a.fail rfl]; exact hc)
    exact key _ _ hu hc
theorem aug_keepT {bh : Str → List Str} {T : List Str} : ∀ (n : Nat) (u : Str) (s : Js), Cl bh s.fo T → ∀ o ∈ T, getS (aug bh n u s).2.fo o = getS s.fo o
  | 0, u, s, _, _, _ => rfl
  | n + 1, u, s, hc, t, ht => by
    have key : ∀ (os : List Str) (s : Js), Cl bh s.fo T → getS (augL (aug bh n) u os s).2.fo t = getS s.fo t := by
      intro os
      induction os with
      | nil => intro s _; rfl
      | cons o os ih =>
        intro s hc
        unfold augL
        split
        · exact ih s hc
        · split
          · rename_i hg
            refine getS_other fun z => ?_
            subst z
            obtain ⟨w, hw, _⟩ := hc t ht
            rw [hg] at hw
            cases hw
          · rename_i w hw
            have hk := aug_keepT n w ⟨s.fo, s.tr ++ [o]⟩ hc t ht
            have a := ag_all bh n w ⟨s.fo, s.tr ++ [o]⟩
            split
            · rename_i s2 e
              rw [e] at hk
              refine (getS_other fun z => ?_).trans hk
              subst z
              obtain ⟨w', hw', hb⟩ := hc t ht
              rw [hw] at hw'
              cases hw'
              have := aug_cl n w ⟨s.fo, s.tr ++ [t]⟩ hc hb
              rw [e] at this
              cases this
            · rename_i s2 e
              rw [e] at a hk
              rw [ih s2 (by rw [a.fail rfl]; exact hc)]
              exact hk
    exact key _ _ hc
/-- a search that fails has tried a closed set -/
theorem aug_fail {bh : Str → List Str} {L : List Str} (hb : ∀ l, ∀ x ∈ bh l, x ∈ L) : ∀ (n : Nat) (u : Str) (s s' : Js), s.tr.Nodup → (∀ x ∈ s.tr, x ∈ L) → L.length < n + s.tr.length → aug bh n u s = (false, s') →
    s'.tr.Nodup ∧ (∀ x ∈ s'.tr, x ∈ L) ∧ (∀ o ∈ bh u, o ∈ s'.tr) ∧ ∀ o ∈ s'.tr, ¬ o ∈ s.tr → ∃ w, getS s.fo o = some w ∧ ∀ x ∈ bh w, x ∈ s'.tr
  | 0, u, s, s', hd, hs, hl, h => by
    have len : s.tr.length ≤ L.length := by
      clear h hl
      generalize s.tr = xs at *
      have sub : ∀ (xs ys : List Str), xs.Nodup → (∀ x ∈ xs, x ∈ ys) → xs.length ≤ ys.length := by
        intro xs
        induction xs with
        | nil => intro ys _ _; exact Nat.zero_le _
        | cons x xs ih =>
          intro ys hn hm
          have h2 := List.nodup_cons.mp hn
          have hx := hm x List.mem_cons_self
          have := ih (ys.erase x) h2.2 fun y hy => (List.mem_erase_of_ne (fun z : y = x => h2.1 (by rw [← z]; exact hy))).mpr (hm y (List.mem_cons_of_mem _ hy))
          rw [List.length_erase_of_mem hx] at this
          have : 0 < ys.length := List.length_pos_of_mem hx
          rw [List.length_cons]
          omega
      exact sub xs L hd hs
    omega
  | n + 1, u, s, s', hd, hs, hl, h => by
    have key : ∀ (os : List Str) (s : Js), (∀ o ∈ os, o ∈ L) → s.tr.Nodup → (∀ x ∈ s.tr, x ∈ L) → L.length < n + 1 + s.tr.length → augL (aug bh n) u os s = (false, s') →
        s'.tr.Nodup ∧ (∀ x ∈ s'.tr, x ∈ L) ∧ (∀ x ∈ s.tr, x ∈ s'.tr) ∧ (∀ o ∈ os, o ∈ s'.tr) ∧ ∀ o ∈ s'.tr, ¬ o ∈ s.tr → ∃ w, getS s.fo o = some w ∧ ∀ x ∈ bh w, x ∈ s'.tr := by
      intro os
      induction os with
      | nil =>
        intro s _ hd hs _ h
        cases h
        exact ⟨hd, hs, fun _ h => h, fun _ h => (by cases h), fun o h1 h2 => absurd h1 h2⟩
      | cons o os ih =>
        intro s hos hd hs hl h
        have hos2 : ∀ x ∈ os, x ∈ L := fun x hx => hos x (List.mem_cons_of_mem _ hx)
        unfold augL at h
        split at h
        · rename_i hin
          obtain ⟨h1, h2, h3, h4, h5⟩ := ih s hos2 hd hs hl h
          refine ⟨h1, h2, h3, fun x hx => ?_, h5⟩
          rcases List.mem_cons.mp hx with rfl | hx
          · exact h3 _ hin
          · exact h4 x hx
        · rename_i hin
          split at h
          · cases h
          · rename_i w hw
            have a := ag_all bh n w ⟨s.fo, s.tr ++ [o]⟩
            split at h
            · cases h
            · rename_i s2 e
              have hd2 : (s.tr ++ [o]).Nodup := by
                rw [List.nodup_append]
                exact ⟨hd, List.nodup_cons.mpr ⟨List.not_mem_nil, List.nodup_nil⟩, fun x hx y hy z => hin (by rw [List.mem_singleton.mp hy] at z; rw [← z]; exact hx)⟩
              have hs2 : ∀ x ∈ s.tr ++ [o], x ∈ L := fun x hx => by
                rcases List.mem_append.mp hx with hx | hx
                · exact hs x hx
                · rw [List.mem_singleton.mp hx]; exact hos o List.mem_cons_self
              obtain ⟨r1, r2, r3, r4⟩ := aug_fail hb n w ⟨s.fo, s.tr ++ [o]⟩ s2 hd2 hs2 (by show L.length < n + (s.tr ++ [o]).length; rw [List.length_append, List.length_singleton]; omega) e
              rw [e] at a
              have hf : s2.fo = s.fo := a.fail rfl
              have hlen : s.tr.length ≤ s2.tr.length := by
                have sub : ∀ (xs ys : List Str), xs.Nodup → (∀ x ∈ xs, x ∈ ys) → xs.length ≤ ys.length := by
                  intro xs
                  induction xs with
                  | nil => intro ys _ _; exact Nat.zero_le _
                  | cons x xs ih =>
                    intro ys hn hm
                    have h2 := List.nodup_cons.mp hn
                    have hx := hm x List.mem_cons_self
                    have := ih (ys.erase x) h2.2 fun y hy => (List.mem_erase_of_ne (fun z : y = x => h2.1 (by rw [← z]; exact hy))).mpr (hm y (List.mem_cons_of_mem _ hy))
                    rw [List.length_erase_of_mem hx] at this
                    have : 0 < ys.length := List.length_pos_of_mem hx
                    rw [List.length_cons]
                    omega
                exact sub _ _ hd fun x hx => a.tr x (List.mem_append_left _ hx)
              obtain ⟨h1, h2, h3, h4, h5⟩ := ih s2 hos2 r1 r2 (by omega) h
              refine ⟨h1, h2, fun x hx => h3 x (a.tr x (List.mem_append_left _ hx)), fun x hx => ?_, fun x hx hxs => ?_⟩
              · rcases List.mem_cons.mp hx with rfl | hx
                · exact h3 _ (a.tr _ (List.mem_append_right _ (List.mem_singleton.mpr rfl)))
                · exact h4 x hx
              · by_cases hx2 : x ∈ s2.tr
                · by_cases hxo : x = o
                  · subst hxo
                    exact ⟨w, hw, fun y hy => h3 y (r3 y hy)⟩
                  · obtain ⟨w', q1, q2⟩ := r4 x hx2 fun z => (List.mem_append.mp z).elim hxs fun z => hxo (List.mem_singleton.mp z)
                    exact ⟨w', q1, fun y hy => h3 y (q2 y hy)⟩
                · obtain ⟨w', q1, q2⟩ := h5 x hx hx2
                  rw [hf] at q1
                  exact ⟨w', q1, q2⟩
    obtain ⟨h1, h2, h3, h4, h5⟩ := key _ _ (fun o ho => hb u o ho) hd hs hl h
    exact ⟨h1, h2, h4, h5⟩
end DL

/-! EV: as many lanes apart as chains are wanted (own work): plain lists. -/
namespace DL
open PySem L2 PySem.W
theorem nd_sub_len : ∀ {xs ys : List Str}, xs.Nodup → (∀ x ∈ xs, x ∈ ys) → xs.length ≤ ys.length
  | [], _, _, _ => Nat.zero_le _
  | x :: xs, ys, hn, hm => by
    have h2 := List.nodup_cons.mp hn
    have hx := hm x List.mem_cons_self
    have := nd_sub_len (ys := ys.erase x) h2.2 fun y hy => (List.mem_erase_of_ne (fun z : y = x => h2.1 (by rw [← z]; exact hy))).mpr (hm y (List.mem_cons_of_mem _ hy))
    rw [List.length_erase_of_mem hx] at this
    have : 0 < ys.length := List.length_pos_of_mem hx
    rw [List.length_cons]
    omega
/-- one lane joined, if it can be -/
def foStep (bh : Str → List Str) (n : Nat) (fo : Tb) (l : Str) : Tb := (aug bh n l ⟨fo, []⟩).2.fo
def foAll (bh : Str → List Str) (n : Nat) (ls : List Str) (fo : Tb) : Tb := ls.foldl (foStep bh n) fo
/-- joined so far: those of pre that have no place are shut in by a closed set -/
structure Jn (bh : Str → List Str) (L pre : List Str) (fo : Tb) : Prop where
  kn : (fo.map (·.1)).Nodup
  vn : (fo.map (·.2)).Nodup
  vs : ∀ v ∈ fo.map (·.2), v ∈ pre
  ed : ∀ p ∈ fo, p.1 ∈ bh p.2
  cl : ∃ T, Cl bh fo T ∧ (∀ x ∈ T, x ∈ L) ∧ ∀ u ∈ pre, ¬ u ∈ fo.map (·.2) → ∀ x ∈ bh u, x ∈ T
theorem Jn.step {bh : Str → List Str} {L pre : List Str} {fo : Tb} (h : Jn bh L pre fo) (hb : ∀ l, ∀ x ∈ bh l, x ∈ L) {n : Nat} (hn : L.length < n) {l : Str} (hl : ¬ l ∈ pre) : Jn bh L (pre ++ [l]) (foStep bh n fo l) := by
  obtain ⟨T, hT, hTL, hU⟩ := h.cl
  have a := ag_all bh n l ⟨fo, []⟩
  have ed := aug_edge (bh := bh) n l ⟨fo, []⟩ h.ed
  have kt := aug_keepT (T := T) n l ⟨fo, []⟩ hT
  unfold foStep
  generalize hr : aug bh n l ⟨fo, []⟩ = r at *
  obtain ⟨b, s'⟩ := r
  cases b with
  | false =>
    have hf : s'.fo = fo := a.fail rfl
    obtain ⟨h1, h2, h3, h4⟩ := aug_fail hb n l ⟨fo, []⟩ s' List.nodup_nil (fun _ z => (by cases z)) (by show L.length < n + 0; omega) hr
    show Jn bh L (pre ++ [l]) s'.fo
    rw [hf]
    refine ⟨h.kn, h.vn, fun v hv => List.mem_append_left _ (h.vs v hv), h.ed, T ++ s'.tr, fun o ho => ?_, fun x hx => ?_, fun u hu hnu x hx => ?_⟩
    · rcases List.mem_append.mp ho with ho | ho
      · obtain ⟨w, q1, q2⟩ := hT o ho
        exact ⟨w, q1, fun x hx => List.mem_append_left _ (q2 x hx)⟩
      · obtain ⟨w, q1, q2⟩ := h4 o ho (fun z => by cases z)
        exact ⟨w, q1, fun x hx => List.mem_append_right _ (q2 x hx)⟩
    · exact (List.mem_append.mp hx).elim (hTL x) (h2 x)
    · rcases List.mem_append.mp hu with hu | hu
      · exact List.mem_append_left _ (hU u hu hnu x hx)
      · rw [List.mem_singleton.mp hu] at hx
        exact List.mem_append_right _ (h3 x hx)
  | true =>
    have hv := aug_vals bh n l ⟨fo, []⟩ s' h.kn hr
    have hv : (s'.fo.map (·.2)).Perm (l :: fo.map (·.2)) := hv
    show Jn bh L (pre ++ [l]) s'.fo
    refine ⟨a.nd h.kn, ?_, fun v hm => ?_, ed, T, fun o ho => ?_, hTL, fun u hu hnu => ?_⟩
    · exact hv.nodup_iff.mpr (List.nodup_cons.mpr ⟨fun z => hl (h.vs l z), h.vn⟩)
    · rcases List.mem_cons.mp (hv.mem_iff.mp hm) with rfl | hm
      · exact List.mem_append_right _ (List.mem_singleton.mpr rfl)
      · exact List.mem_append_left _ (h.vs v hm)
    · obtain ⟨w, q1, q2⟩ := hT o ho
      exact ⟨w, (kt o ho).trans q1, q2⟩
    · rcases List.mem_append.mp hu with hu | hu
      · exact hU u hu fun z => hnu (hv.mem_iff.mpr (List.mem_cons_of_mem _ z))
      · rw [List.mem_singleton.mp hu] at hnu
        exact absurd (hv.mem_iff.mpr List.mem_cons_self) hnu
theorem Jn.all {bh : Str → List Str} {L : List Str} (hb : ∀ l, ∀ x ∈ bh l, x ∈ L) {n : Nat} (hn : L.length < n) : ∀ (ls pre : List Str) (fo : Tb), (pre ++ ls).Nodup → Jn bh L pre fo → Jn bh L (pre ++ ls) (foAll bh n ls fo)
  | [], pre, fo, _, h => by rw [List.append_nil]; exact h
  | l :: ls, pre, fo, hd, h => by
    have e : pre ++ l :: ls = (pre ++ [l]) ++ ls := by rw [List.append_assoc]; rfl
    rw [e] at hd ⊢
    have hl : ¬ l ∈ pre := fun z => (List.nodup_append.mp (List.nodup_append.mp hd).1).2.2 l z l (List.mem_singleton.mpr rfl) rfl
    exact Jn.all hb hn ls (pre ++ [l]) _ hd (h.step hb hn hl)
theorem Jn.ini {bh : Str → List Str} {L : List Str} : Jn bh L [] [] := ⟨List.nodup_nil, List.nodup_nil, fun _ h => (by cases h), fun _ h => (by cases h), [], fun _ h => (by cases h), fun _ h => (by cases h), fun _ h => (by cases h)⟩
/-- an order of lanes: strict -/
structure Od (bh : Str → List Str) (L : List Str) : Prop where
  sub : ∀ l, ∀ x ∈ bh l, x ∈ L
  irr : ∀ l, ¬ l ∈ bh l
  tra : ∀ {l x y}, x ∈ bh l → y ∈ bh x → y ∈ bh l

/-! lanes apart -/
def vOf (fo : Tb) (o : Str) : Str := (getS fo o).getD ""
/-- left ones so far and right ones: the first lefts have no place, then those of the rights -/
structure Ap (bh : Str → List Str) (L : List Str) (fo : Tb) (T U left right : List Str) : Prop where
  le : left = U ++ right.map (vOf fo)
  rn : right.Nodup
  rt : ∀ x ∈ right, x ∈ T
  rb : ∀ x ∈ right, ∃ l ∈ left, x ∈ bh l
/-- what is fixed: fo joins lanes, T closed -/
structure Fx0 (bh : Str → List Str) (L : List Str) (fo : Tb) (T U : List Str) : Prop where
  od : Od bh L
  ln : L.Nodup
  kn : (fo.map (·.1)).Nodup
  vn : (fo.map (·.2)).Nodup
  vs : ∀ v ∈ fo.map (·.2), v ∈ L
  ed : ∀ p ∈ fo, p.1 ∈ bh p.2
  tl : ∀ x ∈ T, x ∈ L
  cl : Cl bh fo T
  ue : U = L.filter fun l => !decide (l ∈ fo.map (·.2))
  ut : ∀ u ∈ U, ∀ x ∈ bh u, x ∈ T
section
variable {bh : Str → List Str} {L : List Str} {fo : Tb} {T U left right : List Str}
theorem vOf_at {o w : Str} (h : getS fo o = some w) : vOf fo o = w := by unfold vOf; rw [h]; rfl
theorem Fx0.at (f : Fx0 bh L fo T U) {o : Str} (h : o ∈ T) : getS fo o = some (vOf fo o) ∧ (o, vOf fo o) ∈ fo ∧ ∀ x ∈ bh (vOf fo o), x ∈ T := by
  obtain ⟨w, h1, h2⟩ := f.cl o h
  rw [vOf_at h1]
  exact ⟨h1, getS_some h1, h2⟩
theorem Ap.bT (f : Fx0 bh L fo T U) (a : Ap bh L fo T U left right) {l : Str} (hl : l ∈ left) : ∀ x ∈ bh l, x ∈ T := by
  rw [a.le] at hl
  rcases List.mem_append.mp hl with hl | hl
  · exact f.ut l hl
  · obtain ⟨o, ho, rfl⟩ := List.mem_map.mp hl
    exact (f.at (a.rt o ho)).2.2
theorem Ap.add (f : Fx0 bh L fo T U) (a : Ap bh L fo T U left right) {l o : Str} (hl : l ∈ left) (ho : o ∈ bh l) (hn : ¬ o ∈ right) : Ap bh L fo T U (left ++ [vOf fo o]) (right ++ [o]) := by
  refine ⟨by rw [a.le, List.map_append, List.append_assoc]; rfl, ?_, fun x hx => ?_, fun x hx => ?_⟩
  · rw [List.nodup_append]
    exact ⟨a.rn, List.nodup_cons.mpr ⟨List.not_mem_nil, List.nodup_nil⟩, fun x hx y hy z => hn (by rw [List.mem_singleton.mp hy] at z; rw [← z]; exact hx)⟩
  · rcases List.mem_append.mp hx with hx | hx
    · exact a.rt x hx
    · rw [List.mem_singleton.mp hx]; exact a.bT f hl o ho
  · rcases List.mem_append.mp hx with hx | hx
    · obtain ⟨l', h1, h2⟩ := a.rb x hx
      exact ⟨l', List.mem_append_left _ h1, h2⟩
    · rw [List.mem_singleton.mp hx]; exact ⟨l, List.mem_append_left _ hl, ho⟩
theorem inj_of_vn : ∀ {fo : Tb}, (fo.map (·.2)).Nodup → ∀ {o o' w : Str}, (o, w) ∈ fo → (o', w) ∈ fo → o = o'
  | [], _, _, _, _, h, _ => by cases h
  | p :: l, hn, o, o', w, h1, h2 => by
    have hn2 := List.nodup_cons.mp hn
    rcases List.mem_cons.mp h1 with e1 | h1
    · rcases List.mem_cons.mp h2 with e2 | h2
      · rw [← e1] at e2; cases e2; rfl
      · exact absurd (List.mem_map.mpr ⟨(o', w), h2, by rw [← e1]⟩ : p.2 ∈ l.map (·.2)) hn2.1
    · rcases List.mem_cons.mp h2 with e2 | h2
      · exact absurd (List.mem_map.mpr ⟨(o, w), h1, by rw [← e2]⟩ : p.2 ∈ l.map (·.2)) hn2.1
      · exact inj_of_vn hn2.2 h1 h2
theorem Ap.nd (f : Fx0 bh L fo T U) (a : Ap bh L fo T U left right) : left.Nodup ∧ ∀ x ∈ left, x ∈ L := by
  have hU : ∀ u ∈ U, u ∈ L ∧ ¬ u ∈ fo.map (·.2) := fun u hu => by
    rw [f.ue, List.mem_filter, Bool.not_eq_true', decide_eq_false_iff_not] at hu
    exact hu
  have hv : ∀ o ∈ right, (o, vOf fo o) ∈ fo := fun o ho => (f.at (a.rt o ho)).2.1
  rw [a.le]
  refine ⟨List.nodup_append.mpr ⟨by rw [f.ue]; exact f.ln.filter _, ?_, fun x hx y hy z => ?_⟩, fun x hx => ?_⟩
  · have key : ∀ rs : List Str, rs.Nodup → (∀ o ∈ rs, (o, vOf fo o) ∈ fo) → (rs.map (vOf fo)).Nodup := by
      intro rs
      induction rs with
      | nil => intro _ _; exact List.nodup_nil
      | cons r rs ih =>
        intro hn hm
        have h2 := List.nodup_cons.mp hn
        rw [List.map_cons, List.nodup_cons]
        refine ⟨fun z => ?_, ih h2.2 fun o ho => hm o (List.mem_cons_of_mem _ ho)⟩
        obtain ⟨o, ho, e⟩ := List.mem_map.mp z
        have m1 := hm o (List.mem_cons_of_mem _ ho)
        rw [e] at m1
        exact h2.1 (inj_of_vn f.vn m1 (hm r List.mem_cons_self) ▸ ho)
    exact key _ a.rn hv
  · obtain ⟨o, ho, rfl⟩ := List.mem_map.mp hy
    exact (hU x hx).2 (z ▸ List.mem_map.mpr ⟨_, hv o ho, rfl⟩)
  · rcases List.mem_append.mp hx with hx | hx
    · exact (hU x hx).1
    · obtain ⟨o, ho, rfl⟩ := List.mem_map.mp hx
      exact f.vs _ (List.mem_map.mpr ⟨_, hv o ho, rfl⟩)
/-- the lanes that are left and not right -/
def apL (L left right : List Str) : List Str := L.filter fun l => decide (l ∈ left) && !decide (l ∈ right)
theorem mem_apL {x : Str} : x ∈ apL L left right ↔ x ∈ L ∧ x ∈ left ∧ ¬ x ∈ right := by
  unfold apL
  rw [List.mem_filter, Bool.and_eq_true, decide_eq_true_eq, Bool.not_eq_true', decide_eq_false_iff_not]
theorem filt_len : ∀ (xs : List Str) (p : Str → Bool), (xs.filter p).length + (xs.filter fun x => !p x).length = xs.length
  | [], _ => rfl
  | x :: xs, p => by
    have := filt_len xs p
    rw [List.filter_cons, List.filter_cons]
    cases p x <;> simp <;> omega
/-- no two of them in the order; as many as have no place -/
theorem Ap.fin (f : Fx0 bh L fo T U) (a : Ap bh L fo T U left right) (hc : ∀ l ∈ left, ∀ x ∈ bh l, x ∈ right) :
    (∀ x ∈ apL L left right, ∀ y ∈ apL L left right, ¬ y ∈ bh x) ∧ (apL L left right).length = U.length := by
  obtain ⟨ln, ls⟩ := a.nd f
  refine ⟨fun x hx y hy z => (mem_apL.mp hy).2.2 (hc x (mem_apL.mp hx).2.1 y z), ?_⟩
  -- every right one is a left one
  have hrl : ∀ x ∈ right, x ∈ left := fun x hx => by
    have hxL := f.tl x (a.rt x hx)
    by_cases hu : x ∈ fo.map (·.2)
    · obtain ⟨p, hp, e⟩ := List.mem_map.mp hu
      have hpb := f.ed p hp
      have e : p.2 = x := e
      rw [e] at hpb
      obtain ⟨l, hl, hxl⟩ := a.rb x hx
      have hpr := hc l hl p.1 (f.od.tra hxl hpb)
      have hv : vOf fo p.1 = p.2 := vOf_at (getS_mem f.kn (show (p.1, p.2) ∈ fo from hp))
      rw [a.le]
      exact List.mem_append_right _ (List.mem_map.mpr ⟨p.1, hpr, hv.trans e⟩)
    · rw [a.le]
      exact List.mem_append_left _ (by rw [f.ue, List.mem_filter, Bool.not_eq_true', decide_eq_false_iff_not]; exact ⟨hxL, hu⟩)
  have e1 : (apL L left right).length = (left.filter fun l => !decide (l ∈ right)).length := by
    refine Nat.le_antisymm (nd_sub_len (f.ln.filter _) fun x hx => ?_) (nd_sub_len (ln.filter _) fun x hx => ?_)
    · have := mem_apL.mp hx
      exact List.mem_filter.mpr ⟨this.2.1, by rw [decide_eq_false this.2.2]; rfl⟩
    · obtain ⟨h1, h2⟩ := List.mem_filter.mp hx
      rw [Bool.not_eq_true', decide_eq_false_iff_not] at h2
      exact mem_apL.mpr ⟨ls x h1, h1, h2⟩
  have e2 : (left.filter fun l => decide (l ∈ right)).length = right.length := by
    refine Nat.le_antisymm (nd_sub_len (ln.filter _) fun x hx => of_decide_eq_true (List.mem_filter.mp hx).2) (nd_sub_len a.rn fun x hx => List.mem_filter.mpr ⟨hrl x hx, decide_eq_true hx⟩)
  have e3 := filt_len left fun l => decide (l ∈ right)
  have e4 : left.length = U.length + right.length := by rw [a.le, List.length_append, List.length_map]
  omega
end
end DL

/-! EW: chains of joined lanes (own work): plain lists. -/
namespace DL
open PySem L2 PySem.W
/-- the table turned about: who follows -/
def swS (fo : Tb) : Tb := fo.map fun p => (p.2, p.1)
theorem swS_mem {fo : Tb} {x y : Str} : (x, y) ∈ swS fo ↔ (y, x) ∈ fo := by
  unfold swS
  rw [List.mem_map]
  constructor
  · rintro ⟨p, hp, e⟩
    cases e
    exact hp
  · intro h
    exact ⟨(y, x), h, rfl⟩
/-- from a lane on, the followers -/
def chF (fo : Tb) : Nat → Str → List Str
  | 0, l => [l]
  | n + 1, l => match getS (swS fo) l with
    | none => [l]
    | some y => l :: chF fo n y
/-- fo joins lanes of L in order -/
structure Jo (bh : Str → List Str) (L : List Str) (fo : Tb) : Prop where
  od : Od bh L
  ln : L.Nodup
  kn : (fo.map (·.1)).Nodup
  vn : (fo.map (·.2)).Nodup
  vs : ∀ v ∈ fo.map (·.2), v ∈ L
  ed : ∀ p ∈ fo, p.1 ∈ bh p.2
section
variable {bh : Str → List Str} {L : List Str} {fo : Tb}
theorem Jo.nx (j : Jo bh L fo) {x y : Str} (h : getS (swS fo) x = some y) : (y, x) ∈ fo ∧ y ∈ bh x ∧ y ∈ L := by
  have h1 := swS_mem.mp (getS_some h)
  have h2 : y ∈ bh x := j.ed _ h1
  exact ⟨h1, h2, j.od.sub x y h2⟩
theorem Jo.ch (j : Jo bh L fo) : ∀ (n : Nat) (l : Str), l ∈ L → (∀ x ∈ chF fo n l, x ∈ L ∧ (x = l ∨ x ∈ bh l)) ∧ (chF fo n l).Pairwise (fun a b => b ∈ bh a)
  | 0, l, hl => ⟨fun x hx => by rw [List.mem_singleton.mp hx]; exact ⟨hl, .inl rfl⟩, List.pairwise_singleton _ _⟩
  | n + 1, l, hl => by
    rw [chF]
    cases h : getS (swS fo) l with
    | none => exact ⟨fun x hx => by rw [List.mem_singleton.mp hx]; exact ⟨hl, .inl rfl⟩, List.pairwise_singleton _ _⟩
    | some y =>
      obtain ⟨_, hy, hyL⟩ := j.nx h
      obtain ⟨h1, h2⟩ := j.ch n y hyL
      have h3 : ∀ x ∈ chF fo n y, x ∈ bh l := fun x hx => by
        rcases (h1 x hx).2 with rfl | z
        · exact hy
        · exact j.od.tra hy z
      refine ⟨fun x hx => ?_, List.pairwise_cons.mpr ⟨h3, h2⟩⟩
      rcases List.mem_cons.mp hx with rfl | hx
      · exact ⟨hl, .inl rfl⟩
      · exact ⟨(h1 x hx).1, .inr (h3 x hx)⟩
end
/-- a state of the search over L -/
structure JOk (L : List Str) (s : Js) : Prop where
  kn : (s.fo.map (·.1)).Nodup
  ks : ∀ x ∈ s.fo.map (·.1), x ∈ L
  vs : ∀ x ∈ s.fo.map (·.2), x ∈ L
  tn : s.tr.Nodup
  ts : ∀ x ∈ s.tr, x ∈ L
theorem JOk.put {L : List Str} {s : Js} (h : JOk L s) {o u : Str} (ho : o ∈ L) (hu : u ∈ L) : JOk L ⟨putS s.fo o u, s.tr⟩ := by
  refine ⟨putS_nd h.kn, fun x hx => ?_, fun x hx => ?_, h.tn, h.ts⟩
  · rcases putS_has.mp hx with rfl | hx
    · exact ho
    · exact h.ks x hx
  · obtain ⟨p, hp, rfl⟩ := List.mem_map.mp hx
    rcases putS_mem (x := p.1) (w := p.2) hp with ⟨_, e⟩ | hp
    · rw [e]; exact hu
    · exact h.vs _ (List.mem_map.mpr ⟨_, hp, rfl⟩)
theorem JOk.len {L : List Str} {s : Js} (h : JOk L s) : s.tr.length ≤ L.length ∧ s.fo.length ≤ L.length := by
  refine ⟨nd_sub_len h.tn h.ts, ?_⟩
  have := nd_sub_len h.kn h.ks
  rwa [List.length_map] at this
end DL

/-! EX: two own objects of one class and an operator (own work). -/
namespace DL
open PySem L2 PySem.W
/-! ### x op y, both of one class of the text -/
section
variable {X : Cx} {CX : CXT} {k : Nat} {C f : Addr} {fd : FuncData} {ps : List Str} {sp : Sp} {E : XK} {Cc : Ct}
/-- x op= y -/
structure Io2 (K : PySem.W.Frag) (C : Addr) (op : Operator) (f : Addr) : Prop where
  first : selfFirst K C = true
  sm : Sm K C (dunderI op.info.2) f
end
/-! ### the same where what is raised may speak of the slots -/
section
variable {X : Cx} {k : Nat} {C f : Addr} {ps : List Str} {E : L2.St → XK} {Cc : Ct} {l r : Expr} {pos : Pos} {tl tr : TE}
end
/-! ### data -/
section
variable {K : PySem.W.Frag} {B F0 : Hp} {ro : Ro} {ka k1 k2 k3 kr : Cells} {ta : List (V × W)} {td te tf ty tx : TE} {De : Ends} {t u : TS} {w x y : W} {b b2 : Bool} {C : Addr} {fs gs : List (Str × D)} {d : D}
/-- a new value with its cells, frozen -/
theorem EvR.frzV {R : W → Cells → Prop} (h : EvR K te ro ka R) (hR : ∀ w k, R w k → ∃ a kt, w = .val (.adr a) ∧ (k1 ++ kt).Perm k ∧ (∀ p ∈ kt, ndK p.2 = true) ∧ FrzD K kt a d) : EvD K te ro ka (.val d) k1 := fun B F0 ta sg H Q e q =>
  h B F0 ta sg H Q e fun w k v H' p e1 => by
    obtain ⟨a, kt, rfl, s, kd, z⟩ := hR w k p
    have hv := e1.tm_adr (v := v) (a := a) List.mem_cons_self
    subst hv
    obtain ⟨F, g, ef⟩ := e1.perm s
    have th := (show EnF K B F ro (k1 ++ kt) _ sg H' from ef).thw kd
    obtain ⟨g2, e2⟩ := ef.frzT kd RoT.refl
    exact q _ _ ⟨_, g.trans g2, (e2.held (ta' := ta) fun p hp => List.mem_cons_of_mem _ hp).push (z F H' ef.nz th)⟩
end
section
variable {K : PySem.W.Frag} {B F0 : Hp} {ro : Ro} {ka k1 k2 k3 kr : Cells} {ta : List (V × W)} {td te tf ty tx : TE} {De De' : Ends} {t u : TS} {w x y : W} {b b2 : Bool} {C C1 : Addr} {fs gs hs : List (Str × D)} {d : D}
end
end DL

/-! EY: patterns as trees, their words, the machine of atoms (own work). -/
namespace DL
open PySem L2 PySem.W
/-- a pattern: an atom (one of some names, or none of them), two behind one another, either, any number, one or none -/
inductive Tr where
  | at (any : Bool) (ns : List Str) | join (a b : Tr) | either (a b : Tr) | rep (a : Tr) | opt (a : Tr)
def kdS : Bool → Str
  | true => "any"
  | false => "none"
/-- as the program holds it (names a tuple), as the law holds it (names a list) -/
def Tr.d (law : Bool) : Tr → D
  | .at k ns => .tup [.str (kdS k), if law then .lst (stD ns) else .tup (stD ns)]
  | .join a b => .tup [.str "join", a.d law, b.d law]
  | .either a b => .tup [.str "either", a.d law, b.d law]
  | .rep a => .tup [.str "repeat", a.d law]
  | .opt a => .tup [.str "option", a.d law]
/-- nested operators -/
def Tr.dep : Tr → Nat
  | .at _ _ => 0
  | .join a b => max a.dep b.dep + 1
  | .either a b => max a.dep b.dep + 1
  | .rep a => a.dep + 1
  | .opt a => a.dep + 1
/-- an atom takes a name -/
def atB (p : Bool × List Str) (x : Str) : Bool := decide (x ∈ p.2) == p.1
/-- any number of words one behind another -/
inductive Str_ (P : List Str → Prop) : List Str → Prop where
  | nil : Str_ P []
  | snoc {u z : List Str} (h : Str_ P u) (hz : P z) : Str_ P (u ++ z)
/-- the machine: atoms, first and last ones, pairs, has it the empty word -/
structure Mc where
  at_ : List (Bool × List Str)
  fi : List Nat
  la : List Nat
  pr : List (Nat × Nat)
  op : Bool
def crN (xs ys : List Nat) : List (Nat × Nat) := xs.flatMap fun x => ys.map fun y => (x, y)
def mcT : Tr → Nat → Mc
  | .at k ns, s => ⟨[(k, ns)], [s], [s], [], false⟩
  | .rep a, s => let m := mcT a s; ⟨m.at_, m.fi, m.la, m.pr ++ crN m.la m.fi, true⟩
  | .opt a, s => let m := mcT a s; ⟨m.at_, m.fi, m.la, m.pr, true⟩
  | .either a b, s => let m := mcT a s; let n := mcT b (s + m.at_.length); ⟨m.at_ ++ n.at_, m.fi ++ n.fi, m.la ++ n.la, m.pr ++ n.pr, m.op || n.op⟩
  | .join a b, s => let m := mcT a s; let n := mcT b (s + m.at_.length)
    ⟨m.at_ ++ n.at_, if m.op then m.fi ++ n.fi else m.fi, if n.op then m.la ++ n.la else n.la, m.pr ++ n.pr ++ crN m.la n.fi, m.op && n.op⟩
/-- a way through the machine that reads w and ends at an atom -/
inductive Pth (T : Nat → Str → Bool) (fi : List Nat) (pr : List (Nat × Nat)) : List Str → Nat → Prop where
  | one {a : Nat} {x : Str} (h : a ∈ fi) (t : T a x = true) : Pth T fi pr [x] a
  | more {w : List Str} {a b : Nat} {x : Str} (h : Pth T fi pr w a) (hp : (a, b) ∈ pr) (t : T b x = true) : Pth T fi pr (w ++ [x]) b
theorem Pth.ne {T : Nat → Str → Bool} {fi : List Nat} {pr : List (Nat × Nat)} {w : List Str} {a : Nat} (h : Pth T fi pr w a) : w ≠ [] := by
  cases h <;> simp
/-- atoms within lo ≤ .. < hi -/
structure McR (m : Mc) (lo hi : Nat) : Prop where
  fi : ∀ a ∈ m.fi, lo ≤ a ∧ a < hi
  la : ∀ a ∈ m.la, lo ≤ a ∧ a < hi
  pr : ∀ p ∈ m.pr, (lo ≤ p.1 ∧ p.1 < hi) ∧ lo ≤ p.2 ∧ p.2 < hi
section
variable {T : Nat → Str → Bool} {fi fi2 fi' : List Nat} {pr pr2 pr' : List (Nat × Nat)} {w u v : List Str} {a c : Nat}
theorem Pth.mono (h : Pth T fi pr w c) (h1 : ∀ a ∈ fi, a ∈ fi') (h2 : ∀ p ∈ pr, p ∈ pr') : Pth T fi' pr' w c := by
  induction h with
  | one h t => exact .one (h1 _ h) t
  | more h hp t ih => exact .more ih (h2 _ hp) t
end
/-! ### the machine run -/
def tkM (m : Mc) (a : Nat) (x : Str) : Bool := match m.at_[a]? with
  | some p => atB p x
  | none => false
def behM (m : Mc) (ps : List Nat) (a : Nat) : Bool := ps.any fun p => decide ((p, a) ∈ m.pr)
def startM (m : Mc) (x : Str) : List Nat := m.fi.filter fun a => tkM m a x
def afterM (m : Mc) (ps : List Nat) (x : Str) : List Nat := (List.range m.at_.length).filter fun a => tkM m a x && behM m ps a
def doneM (m : Mc) (ps : List Nat) : Bool := ps.any fun p => decide (p ∈ m.la)
def runM (m : Mc) : List Str → List Nat
  | [] => []
  | x :: r => r.foldl (afterM m) (startM m x)
theorem run_snoc {m : Mc} {w : List Str} {x : Str} (h : w ≠ []) : runM m (w ++ [x]) = afterM m (runM m w) x := by
  cases w with
  | nil => exact absurd rfl h
  | cons y r =>
    show (r ++ [x]).foldl _ _ = _
    rw [List.foldl_append]
    rfl
end DL

/-! EZ: pairs of numbers as keys (own work). -/
namespace DL
open PySem L2 PySem.W
section
variable {K : PySem.W.Frag} {B F F0 : Hp} {ro : Ro} {ka k1 k2 k3 kr : Cells} {ta : List (V × W)} {sg : L2.St} {H H' : Hp} {te tf tg td ty tk tv : TE} {tt : TT} {w : W} {a : Addr} {b : Bool}
def prD (p : Nat × Nat) : D := .tup [.int (p.1 : Int), .int (p.2 : Int)]
end
end DL

/-! FA: a list comprehension with two fors, by data, for the library's reading tLc2 (own work). -/
namespace DL
open PySem L2 PySem.W
section
variable {K : PySem.W.Frag} {B F F0 : Hp} {ro : Ro} {ka k1 k2 k3 kr : Cells} {ta : List (V × W)} {sg : L2.St} {H H' : Hp} {te : TE}
end
end DL

/-! FB: machines as data (own work). -/
namespace DL
open PySem L2 PySem.W
structure Fits (m : Mc) : Prop where
  a : m.at_.length ≤ 300
  f : m.fi.length ≤ 300
  l : m.la.length ≤ 300
  p : m.pr.length ≤ 90000
/-- a pattern small enough for its machine, and so are its parts -/
def Tr.sm : Tr → Prop
  | .at k ns => ns.length ≤ 1000
  | .join a b => a.sm ∧ b.sm ∧ ∀ s, Fits (mcT (.join a b) s)
  | .either a b => a.sm ∧ b.sm ∧ ∀ s, Fits (mcT (.either a b) s)
  | .rep a => a.sm ∧ ∀ s, Fits (mcT (.rep a) s)
  | .opt a => a.sm ∧ ∀ s, Fits (mcT (.opt a) s)
theorem Tr.sm.fits {t : Tr} (h : t.sm) (s : Nat) : Fits (mcT t s) := by
  cases t with
  | «at» k ns => exact ⟨by show 1 ≤ 300; decide, by show 1 ≤ 300; decide, by show 1 ≤ 300; decide, by show 0 ≤ 90000; decide⟩
  | join a b => exact h.2.2 s
  | either a b => exact h.2.2 s
  | rep a => exact h.2 s
  | opt a => exact h.2 s
/-! sizes -/
def Tr.ats : Tr → Nat
  | .at _ _ => 1
  | .join a b => a.ats + b.ats
  | .either a b => a.ats + b.ats
  | .rep a => a.ats
  | .opt a => a.ats
theorem mc_at_len : ∀ (t : Tr) (s : Nat), (mcT t s).at_.length = t.ats
  | .at _ _, _ => rfl
  | .rep a, s => mc_at_len a s
  | .opt a, s => mc_at_len a s
  | .either a b, s => by
    show (_ ++ _ : List _).length = _
    rw [List.length_append, mc_at_len a, mc_at_len b]
    rfl
  | .join a b, s => by
    show (_ ++ _ : List _).length = _
    rw [List.length_append, mc_at_len a, mc_at_len b]
    rfl
/-- all atoms hold few names -/
def Tr.few : Tr → Prop
  | .at _ ns => ns.length ≤ 1000
  | .join a b => a.few ∧ b.few
  | .either a b => a.few ∧ b.few
  | .rep a => a.few
  | .opt a => a.few
section
variable {K : PySem.W.Frag} {ro : Ro} {ka k1 k2 : Cells} {te tf : TE}
theorem En.freeze_t {B F0 : Hp} {ta : List (V × W)} {sg : L2.St} {H : Hp} {a : Addr} {ds : List (List Key × D)} (e : En K B F0 ro (ka ++ [(a, .dit ds)]) ta sg H) : En K B F0 ro ka ((.ref a, .val (.dit ds)) :: ta) sg H := by
  obtain ⟨F, g, e⟩ := e
  obtain ⟨fa, ba, xs, ha, rl⟩ := e.ce (a, .dit ds) (by simp)
  have gg : Gr B F (upd F a (.dT xs)) := ⟨Sub.new fa, fun b h1 h2 => by
    have ne : b ≠ a := fun q => h2 (q ▸ ba)
    rw [upd_ne ne]
    exact h1⟩
  have nd2 := e.nd
  rw [List.map_append, List.nodup_append] at nd2
  refine ⟨upd F a (.dT xs), g.trans gg, ⟨fun b u h => ?_, fun b u h => ?_, e.fr, nd2.1, fun q hq => ?_, e.ln, fun i w h => ?_, fun q hq => ?_⟩⟩
  · by_cases hb : b = a
    · subst hb; rw [upd_same] at h; cases h; rfl
    · rw [upd_ne hb] at h; exact e.nz b u h
  · by_cases hb : b = a
    · subst hb; rw [upd_same] at h; cases h; exact .inl ha
    · rw [upd_ne hb] at h; exact e.fz b u h
  · obtain ⟨h1, h2, h3⟩ := e.ce q (List.mem_append_left _ hq)
    have nq : q.1 ≠ a := fun z => nd2.2.2 q.1 (List.mem_map.mpr ⟨q, hq, rfl⟩) a (by simp) z
    exact ⟨by rw [upd_ne nq]; exact h1, h2, ndok_gr e.nz gg h3⟩
  · obtain ⟨v, h1, h2⟩ := e.sl i w h
    exact ⟨v, h1, wok_gr e.nz gg h2⟩
  · rcases List.mem_cons.mp hq with rfl | hq
    · exact ⟨a, xs, rfl, .inl upd_same, RpT.mono gg.sub.exz e.nz _ _ rl⟩
    · exact wok_gr e.nz gg (e.tm q hq)
theorem EvN.dit {ds : List (List Key × D)} (h : EvN K te ro ka (.dit ds) k1) : EvD K te ro ka (.val (.dit ds)) k1 := fun B F0 ta sg H Q e q => h B F0 ta sg H Q e fun a H1 e1 => q _ _ e1.freeze_t
end
section
variable {K : PySem.W.Frag} {ro : Ro} {ka k1 k2 : Cells} {te tf : TE} {y : W}
end
theorem EvI.ws {K : PySem.W.Frag} {wi : TI} {ro : Ro} {ka k1 : Cells} {ws ws' : List W} {C : Cells → Prop} (h : EvI K wi ro ka ws C k1) (e : ws = ws') : EvI K wi ro ka ws' C k1 := e ▸ h
/-- the parts of a pattern that is no atom -/
def Tr.parts : Tr → List Tr
  | .at _ _ => []
  | .join a b => [a, b]
  | .either a b => [a, b]
  | .rep a => [a]
  | .opt a => [a]
end DL

/-! FC: where the words of a pattern end (own work). -/
namespace DL
open PySem L2 PySem.W
/-- steps one behind another -/
inductive Stp (R : Nat → Nat → Prop) (s : Nat) : Nat → Prop where
  | nil : Stp R s s
  | snoc {m k : Nat} (h : Stp R s m) (hr : R m k) : Stp R s k
end DL

/-! FD: {x: True for x in xs}, xs a list of tuples: the library's DictComp_goesN with the hand layer's state as what holds at each turn (own work). -/
namespace DL
open PySem L2 PySem.W PyProof.Rows
section
variable {X : Cx}
end
end DL
namespace DL
open PySem L2 PySem.W
section
variable {K : PySem.W.Frag} {B F F0 : Hp} {ro : Ro} {ka k1 k2 : Cells} {ta : List (V × W)} {sg : L2.St} {H H' : Hp} {te : TE}
end
end DL

/-! FE: the ends of a pattern's words, as the law counts them (own work). -/
namespace DL
open PySem L2 PySem.W
/-- the places not there yet, appended -/
def addN (acc : List Nat) (ps : List Nat) : List Nat := ps.foldl (fun acc p => if p ∈ acc then acc else acc ++ [p]) acc
theorem addN_cons (acc : List Nat) (p : Nat) (ps : List Nat) : addN acc (p :: ps) = addN (if p ∈ acc then acc else acc ++ [p]) ps := rfl
theorem addN_ext (ps : List Nat) : ∀ acc, ∃ r, addN acc ps = acc ++ r := by
  induction ps with
  | nil => exact fun acc => ⟨[], (List.append_nil _).symm⟩
  | cons p ps ih =>
    intro acc
    rw [addN_cons]
    split
    · exact ih acc
    · obtain ⟨r, e⟩ := ih (acc ++ [p])
      exact ⟨p :: r, by rw [e, List.append_assoc]; rfl⟩
theorem addN_mem {x : Nat} (ps : List Nat) : ∀ acc, x ∈ addN acc ps ↔ x ∈ acc ∨ x ∈ ps := by
  induction ps with
  | nil => exact fun acc => by simp [addN]
  | cons p ps ih =>
    intro acc
    rw [addN_cons, ih]
    split
    · rename_i h
      simp only [List.mem_cons]
      constructor
      · rintro (z | z)
        · exact .inl z
        · exact .inr (.inr z)
      · rintro (z | rfl | z)
        · exact .inl z
        · exact .inl h
        · exact .inr z
    · simp only [List.mem_append, List.mem_cons, List.not_mem_nil, or_false]
      rw [or_assoc]
theorem addN_nodup (ps : List Nat) : ∀ acc, acc.Nodup → (addN acc ps).Nodup := by
  induction ps with
  | nil => exact fun acc h => h
  | cons p ps ih =>
    intro acc h
    rw [addN_cons]
    split
    · exact ih acc h
    · rename_i hp
      refine ih _ (List.nodup_append.mpr ⟨h, by simp, fun a ha b hb => ?_⟩)
      rw [List.mem_singleton.mp hb]
      exact fun z => hp (z ▸ ha)
structure RepI (f : Nat → List Nat) (L s n : Nat) (found : List Nat) (i : Nat) : Prop where
  nd : found.Nodup
  le : ∀ x ∈ found, x ≤ L
  st : s ∈ found
  sound : ∀ x ∈ found, Stp (fun m k => k ∈ f m) s x
  shut : ∀ j x, j < i → found[j]? = some x → ∀ k ∈ f x, k ∈ found
  at_ : i ≤ found.length
  fuel : L + 2 ≤ n + i
theorem RepI.next {f : Nat → List Nat} {L s n : Nat} {found : List Nat} {i p : Nat} (bd : ∀ m ≤ L, ∀ k ∈ f m, k ≤ L) (h : RepI f L s (n + 1) found i) (hp : found[i]? = some p) : RepI f L s n (addN found (f p)) (i + 1) := by
  have mp := List.mem_of_getElem? hp
  obtain ⟨r, er⟩ := addN_ext (f p) found
  have lt := (List.getElem?_eq_some_iff.mp hp).1
  refine ⟨addN_nodup _ _ h.nd, fun x hx => ?_, (addN_mem _ _).mpr (.inl h.st), fun x hx => ?_, fun j x hj hx k hk => ?_, ?_, by have := h.fuel; omega⟩
  · rcases (addN_mem _ _).mp hx with z | z
    · exact h.le x z
    · exact bd p (h.le p mp) x z
  · rcases (addN_mem _ _).mp hx with z | z
    · exact h.sound x z
    · exact .snoc (h.sound p mp) z
  · by_cases e : j = i
    · subst e
      rw [er, List.getElem?_append_left lt, hp] at hx
      cases hx
      exact (addN_mem _ _).mpr (.inr hk)
    · have lj : j < i := by omega
      rw [er, List.getElem?_append_left (by omega)] at hx
      exact (addN_mem _ _).mpr (.inl (h.shut j x lj hx k hk))
  · rw [er, List.length_append]
    omega
theorem Stp.imp {R S : Nat → Nat → Prop} {s L : Nat} (hs : s ≤ L) (hR : ∀ m k, m ≤ L → R m k → S m k ∧ k ≤ L) {k : Nat} (h : Stp R s k) : Stp S s k ∧ k ≤ L := by
  induction h with
  | nil => exact ⟨.nil, hs⟩
  | snoc _ hr ih =>
    obtain ⟨h1, h2⟩ := hR _ _ ih.2 hr
    exact ⟨.snoc ih.1 h1, h2⟩
end DL

/-! FF: defs with a star parameter, by contracts about the tuple (own work). -/
namespace DL
open PySem L2 PySem.W PyProof.Rows
/-- a contract about the tuple of all arguments, told by the arguments -/
def CtV (C : Ct) : Ct := fun ws ka out => ∃ ds : List D, ws = ds.map W.val ∧ ds.length ≤ 100000 ∧ C [.val (.tup ds)] ka out
/-- the def at f, which takes any number of arguments, keeps C of their tuple -/
def FnV (P : Program) (w : World) (K : PySem.W.Frag) (mg : Str → Option Value) (base : Heap) (k : Nat) (f : Addr) (C : Ct) : Prop := FnR P w K mg base (L2.CX P w) k f (spC K (CtV C))
section
variable {P : Program} {w : World} {K : PySem.W.Frag} {mg : Str → Option Value} {base : Heap} {f : Addr} {fd : FuncData} {x qual pv : Str} {params : Arguments} {body : List Stmt} {scope : Scope} {N : List Str} {k j : Nat} {C : Ct}
theorem FnV.up (F : FnV P w K mg base j f C) (h : j ≤ k) : FnV P w K mg base k f C := FnR.mono F h
end
section
variable {X : Cx} {k : Nat} {f : Addr} {C : Ct} {E : XK} {x : Str} {p pos : Pos} {e : Expr} {es : List Expr} {t : TA}
end
/-- trees as the law draws them: at each end one to three names, or none behind "none" -/
def niceT : Tr → Prop
  | .at k ns => ns.length ≤ 3 ∧ (k = true → ns ≠ []) ∧ ∀ n ∈ ns, isNm n = true
  | .join a b => niceT a ∧ niceT b
  | .either a b => niceT a ∧ niceT b
  | .rep a => niceT a
  | .opt a => niceT a
end DL

/-! FG: patterns turned about and multiplied (own work). -/
namespace DL
open PySem L2 PySem.W
end DL
namespace DL
open PySem L2 PySem.W
end DL

/-! FH: errors without fields handed on (own work). -/
namespace DL
open PySem L2 PySem.W
section
variable {K : PySem.W.Frag} {B F0 : Hp} {ro : Ro} {ka k1 k2 : Cells} {ta : List (V × W)} {te tf : TE} {tr : TA} {De : Ends} {u : TS} {C1 : Addr} {gs : List (Str × D)} {out : Oc} {E : XK} {w : W}
theorem g_retPX (hX : RxOk K B F0 out E) (h : EvX K te ro ka E C1 gs k2) (o : out (.exc C1 gs) k2) : Gp K B F0 ta (tRet te De) ro ka := fun sg H e => h B F0 ta sg H _ e fun dx H' e' => hX.1 C1 gs k2 dx H' o e'.leaveX
end
end DL

/-! FI: `is not` between truth values (own work). -/
namespace DL
open PySem L2 PySem.W
section
variable {K : PySem.W.Frag} {ro : Ro} {ka k1 k2 : Cells} {te tf : TE}
end
end DL

/-! FJ: dicts whose keys are tuples of any depth: read, asked, written (own work). -/
namespace DL
open PySem L2 PySem.W PyProof.Rows

/-! ### rows -/
/-- keys and values alone -/
def rowN {α : Type} (xs : List (NestedKey × Addr × α)) : List (NestedKey × α) := xs.map fun x => (x.1, x.2.2)
def setA {α : Type} (k : NestedKey) (v : α) (x : NestedKey × Addr × α) : NestedKey × Addr × α := if x.1 = k then (x.1, x.2.1, v) else x
/-- a key that stands keeps its place and its own thing -/
def putA {α : Type} (xs : List (NestedKey × Addr × α)) (k : NestedKey) (b : Addr) (v : α) : List (NestedKey × Addr × α) :=
  if hasT (rowN xs) k = true then xs.map (setA k v) else xs ++ [(k, b, v)]
section
variable {α : Type}
end
/-- a row of values as they are seen, as they lie -/
abbrev SeesN : List (NestedKey × Addr × V) → List (NestedKey × Addr × Value) → Prop := Paired fun p q => p.1 = q.1 ∧ p.2.1 = q.2.1 ∧ RelV p.2.2 q.2.2
theorem SeesN.has {xs : List (NestedKey × Addr × V)} {qs : List (NestedKey × Addr × Value)} (r : SeesN xs qs) (k : NestedKey) :
    (getT (rowN xs) k = none ∧ hasT (rowN xs) k = false ∧ atKey qs k = none) ∨ ∃ v p, getT (rowN xs) k = some v ∧ hasT (rowN xs) k = true ∧ atKey qs k = some p ∧ RelV v p.2 := by
  unfold SeesN at r
  induction r with
  | nil => exact .inl ⟨rfl, rfl, rfl⟩
  | @cons p q ps qs h t ih =>
    obtain ⟨h1, h2, h3⟩ := h
    by_cases e : p.1 = k
    · refine .inr ⟨p.2.2, q.2, ?_, ?_, ?_, h3⟩
      · show getT ((p.1, p.2.2) :: rowN ps) k = _
        simp [getT, e]
      · show hasT ((p.1, p.2.2) :: rowN ps) k = _
        simp [hasT, e]
      · have e2 : q.1 = k := h1.symm.trans e
        simp [atKey, e2]
    · have e2 : ¬ q.1 = k := fun z => e (h1.trans z)
      have a1 : getT (rowN (p :: ps)) k = getT (rowN ps) k := by
        show getT ((p.1, p.2.2) :: rowN ps) k = _
        simp [getT, e]
      have a2 : hasT (rowN (p :: ps)) k = hasT (rowN ps) k := by
        show hasT ((p.1, p.2.2) :: rowN ps) k = _
        simp [hasT, e]
      have a3 : atKey (q :: qs) k = atKey qs k := by simp [atKey, e2]
      rw [a1, a2, a3]
      exact ih
theorem SeesN.put {xs : List (NestedKey × Addr × V)} {qs : List (NestedKey × Addr × Value)} (r : SeesN xs qs) (k : NestedKey) (b : Addr) {v : V} {u : Value} (rv : RelV v u) : SeesN (putA xs k b v) (storedH qs k b u) := by
  have hh : hasT (rowN xs) k = (atKey qs k).isSome := by
    rcases r.has k with ⟨_, h, h2⟩ | ⟨_, _, _, h, h2, _⟩ <;> rw [h, h2] <;> rfl
  unfold putA storedH
  rw [hh]
  split
  · unfold SeesN at r
    clear hh
    rename_i hx
    clear hx
    induction r with
    | nil => exact .nil
    | @cons p q ps qs h t ih =>
      obtain ⟨h1, h2, h3⟩ := h
      refine .cons ?_ ih
      unfold putAt setA
      by_cases e : p.1 = k
      · rw [if_pos e, if_pos (h1.symm.trans e)]
        exact ⟨h1, h2, rv⟩
      · rw [if_neg e, if_neg fun z => e (h1.trans z)]
        exact ⟨h1, h2, h3⟩
  · exact Paired.snoc r ⟨rfl, rfl, rv⟩

/-- all its keys stand where they are told -/
def NAt (K : PySem.W.Frag) (H : Hp) (w : World) (a : Addr) (xs : List (NestedKey × Addr × V)) : Prop := Rd H a (DnO w a xs) ∧ ∀ x ∈ xs, RkN K H x.1 (.ref x.2.1) ∧ x.1.depth ≤ 8
section
variable {X : Cx} {pins : List (Addr × Obj)} {σ : L2.St} {H : Hp} {s : Shared} {a b : Addr} {xs : List (NestedKey × Addr × V)}
mutual
theorem key_is (I : L2.Inv X pins σ H s) : ∀ (k : NestedKey) (v : V) (u : Value), RkN X.K H k v → RelV v u → NestedIs s.heap k u
  | .none, _, _, h, r => by
    subst h
    cases (show _ = Value.none from r)
    exact .none
  | .num i, _, _, h, r => by
    subst h
    obtain ⟨t, rfl⟩ := (show ∃ t, _ = Value.int i t from r)
    exact .int i t
  | .text x, _, _, h, r => by
    subst h
    obtain ⟨t, rfl⟩ := (show ∃ t, _ = Value.str x t from r)
    exact .text x t
  | .tup ks, _, _, h, r => by
    obtain ⟨c, ys, rfl, h1, h2⟩ := h
    cases (show _ = Value.ref c from r)
    obtain ⟨its, rel, ⟨o, ho, hc, n, hd⟩, _⟩ := I.tuple h1
    exact .tup ho hc hd (by simpa using keys_are I ks ys its h2 rel)
theorem keys_are (I : L2.Inv X pins σ H s) : ∀ (ks : List NestedKey) (vs : List V) (us : List Value), RkL X.K H ks vs → Vals vs us → NestedAll s.heap ks us
  | [], _, us, h, r => by
    subst h
    cases r
    exact .nil
  | k :: ks, _, us, h, r => by
    obtain ⟨x, ys, rfl, h1, h2⟩ := h
    cases r with
    | cons r1 r2 => exact .cons (key_is I k x _ h1 r1) (keys_are I ks ys _ h2 r2)
end
end

section
variable {X : Cx} {o i value : Expr} {pos pos' : Pos} {td ty tv tk : TE}
end
end DL

/-! FK: dicts with nested keys, by data (own work). -/
namespace DL
open PySem L2 PySem.W

/-! ### keys as data -/
mutual
def nkD : NestedKey → D
  | .none => .non
  | .num i => .int i
  | .text s => .str s
  | .tup ks => .tup (nkDs ks)
def nkDs : List NestedKey → List D
  | [] => []
  | k :: ks => nkD k :: nkDs ks
end
section
variable {K : PySem.W.Frag} {F : Hp}
mutual
theorem rk_iff : ∀ (k : NestedKey) (v : V), RkN K F k v ↔ Rp K F (nkD k) v
  | .none, _ => Iff.rfl
  | .num _, _ => Iff.rfl
  | .text _, _ => Iff.rfl
  | .tup ks, v => ⟨fun ⟨a, xs, e, h1, h2⟩ => ⟨a, xs, e, h1, (rks_iff ks xs).mp h2⟩, fun ⟨a, xs, e, h1, h2⟩ => ⟨a, xs, e, h1, (rks_iff ks xs).mpr h2⟩⟩
theorem rks_iff : ∀ (ks : List NestedKey) (vs : List V), RkL K F ks vs ↔ RpL K F (nkDs ks) vs
  | [], _ => Iff.rfl
  | k :: ks, vs => ⟨fun ⟨x, ys, e, h1, h2⟩ => ⟨x, ys, e, (rk_iff k x).mp h1, (rks_iff ks ys).mp h2⟩, fun ⟨x, ys, e, h1, h2⟩ => ⟨x, ys, e, (rk_iff k x).mpr h1, (rks_iff ks ys).mpr h2⟩⟩
end
end
/-! ### rows -/
section
variable {K : PySem.W.Frag} {F : Hp}
theorem rpn_keys : ∀ {ds : List (NestedKey × D)} {xs : List (NestedKey × Addr × V)}, RpN K F ds xs → ∀ x ∈ xs, RkN K F x.1 (.ref x.2.1) ∧ x.1.depth ≤ 8
  | [], xs, h => by rw [show xs = [] from h]; exact fun _ hx => nomatch hx
  | (k, d) :: ds, xs, h => by
    obtain ⟨b, x, ys, rfl, h0, h1, h2⟩ := h
    intro y hy
    rcases List.mem_cons.mp hy with rfl | hy
    · exact h0
    · exact rpn_keys h2 y hy
end

/-! ### read and written -/
/-- w is a dict of ds with nested keys; b: viewed -/
inductive Dn (wd : World) (ka : Cells) : W → List (NestedKey × D) → Bool → Prop where
  | v {ds : List (NestedKey × D)} : Dn wd ka (.val (.din wd ds)) ds false
  | w {ds : List (NestedKey × D)} : Dn wd ka (.vw (.din wd ds)) ds true
  | ce {a : Addr} {ds : List (NestedKey × D)} (j : Nat) (h : ka[j]? = some (a, .din wd ds)) : Dn wd ka (.val (.adr a)) ds false
section
variable {wd : World} {K : PySem.W.Frag} {B B' F F' F0 : Hp} {ro ro' : Ro} {ka k1 k2 k3 kr : Cells} {ta : List (V × W)} {sg sg' : L2.St} {H H' : Hp} {te tf tg td ty tk tv : TE} {w x y z : W} {n m : Nd} {a : Addr} {b : Bool} {De : Ends} {t u : TS} {ds : List (NestedKey × D)} {k : NestedKey} {ks : List NestedKey} {d : D}
theorem Dn.get {v : V} (l : Dn wd ka w ds b) (e : EnF K B F ro ka ta sg H) (h : WOk K B F v w) : ∃ a xs, v = .ref a ∧ NAt K H wd a xs ∧ RpN K (if b then uni B F else F) ds xs := by
  cases l with
  | v =>
    obtain ⟨a, xs, rfl, h1, h2⟩ := h
    exact ⟨a, xs, rfl, ⟨e.fz.rd e.nz h1, fun x hx => ⟨RkN.mono e.fz e.nz _ _ (rpn_keys h2 x hx).1, (rpn_keys h2 x hx).2⟩⟩, h2⟩
  | w =>
    obtain ⟨a, xs, rfl, h1, h2⟩ := h
    have z := uni_exz e.fz e.fr
    have nz := uni_nz (B := B) e.nz
    exact ⟨a, xs, rfl, ⟨z.rd nz h1, fun x hx => ⟨RkN.mono z nz _ _ (rpn_keys h2 x hx).1, (rpn_keys h2 x hx).2⟩⟩, h2⟩
  | ce j hj =>
    obtain rfl : v = .ref _ := h
    obtain ⟨_, _, xs, h1, h2⟩ := e.ce _ (List.mem_of_getElem? hj)
    exact ⟨_, xs, rfl, ⟨.inl h1, fun x hx => ⟨RkN.mono e.fz e.nz _ _ (rpn_keys h2 x hx).1, (rpn_keys h2 x hx).2⟩⟩, h2⟩
/-- an expression that makes a new cell, as one that comes back with its place -/
theorem EvN.adr (h : EvN K te ro ka n k1) : EvR K te ro ka fun w k => ∃ c, w = .val (.adr c) ∧ k = k1 ++ [(c, n)] := fun B F0 ta sg H Q e q =>
  h B F0 ta sg H Q e fun c H' e1 => q _ _ _ _ ⟨c, rfl, rfl⟩ (e1.tmA c)
/-- a dict of nested keys, frozen -/
theorem En.freeze_n (e : En K B F0 ro (ka ++ [(a, .din wd ds)]) ta sg H) : En K B F0 ro ka ((.ref a, .val (.din wd ds)) :: ta) sg H := by
  obtain ⟨F, g, e⟩ := e
  obtain ⟨fa, ba, xs, ha, rl⟩ := e.ce (a, .din wd ds) (by simp)
  have gg : Gr B F (upd F a (DnO wd a xs)) := ⟨Sub.new fa, fun b h1 h2 => by
    have ne : b ≠ a := fun q => h2 (q ▸ ba)
    rw [upd_ne ne]
    exact h1⟩
  have nd2 := e.nd
  rw [List.map_append, List.nodup_append] at nd2
  refine ⟨_, g.trans gg, ⟨fun b u h => ?_, fun b u h => ?_, e.fr, nd2.1, fun q hq => ?_, e.ln, fun i w h => ?_, fun q hq => ?_⟩⟩
  · by_cases hb : b = a
    · subst hb; rw [upd_same] at h; cases h; rfl
    · rw [upd_ne hb] at h; exact e.nz b u h
  · by_cases hb : b = a
    · subst hb; rw [upd_same] at h; cases h; exact .inl ha
    · rw [upd_ne hb] at h; exact e.fz b u h
  · obtain ⟨h1, h2, h3⟩ := e.ce q (List.mem_append_left _ hq)
    have nq : q.1 ≠ a := fun z => nd2.2.2 q.1 (List.mem_map.mpr ⟨q, hq, rfl⟩) a (by simp) z
    exact ⟨by rw [upd_ne nq]; exact h1, h2, ndok_gr e.nz gg h3⟩
  · obtain ⟨v, h1, h2⟩ := e.sl i w h
    exact ⟨v, h1, wok_gr e.nz gg h2⟩
  · rcases List.mem_cons.mp hq with rfl | hq
    · exact ⟨a, xs, rfl, .inl upd_same, RpN.mono gg.sub.exz e.nz _ _ rl⟩
    · exact wok_gr e.nz gg (e.tm q hq)
theorem EvN.din (h : EvN K te ro ka (.din wd ds) k1) : EvD K te ro ka (.val (.din wd ds)) k1 := fun B F0 ta sg H Q e q => h B F0 ta sg H Q e fun a H1 e1 => q _ _ e1.freeze_n
end
end DL

/-! FL: searches by levels in plain Lean; sub-rows; what a machine has begun (own work). -/
namespace DL
open PySem L2 PySem.W

/-! ### sub-rows -/
def subs {α : Type} : List α → List (List α)
  | [] => [[]]
  | x :: xs => subs xs ++ (subs xs).map (x :: ·)
theorem subs_len {α : Type} : ∀ xs : List α, (subs xs).length = 2 ^ xs.length
  | [] => rfl
  | x :: xs => by
    rw [subs, List.length_append, List.length_map, subs_len xs, List.length_cons, Nat.pow_succ]
    omega
theorem flt_subs {α : Type} (p : α → Bool) : ∀ xs : List α, xs.filter p ∈ subs xs
  | [] => List.mem_singleton.mpr rfl
  | x :: xs => by
    rw [subs, List.filter_cons]
    split
    · exact List.mem_append_right _ (List.mem_map.mpr ⟨_, flt_subs p xs, rfl⟩)
    · exact List.mem_append_left _ (flt_subs p xs)
/-- different things out of a row are no more than it -/
theorem nd_sub {α : Type} [DecidableEq α] : ∀ {xs ys : List α}, xs.Nodup → (∀ x ∈ xs, x ∈ ys) → xs.length ≤ ys.length
  | [], _, _, _ => Nat.zero_le _
  | x :: xs, ys, hn, h => by
    have hx := h x List.mem_cons_self
    obtain ⟨h1, h2⟩ := List.nodup_cons.mp hn
    have := nd_sub (ys := ys.erase x) h2 fun y hy => (List.mem_erase_of_ne fun e => by subst e; exact h1 hy).mpr (h y (List.mem_cons_of_mem _ hy))
    rw [List.length_erase_of_mem hx] at this
    have := List.length_pos_of_mem hx
    rw [List.length_cons]
    omega

/-! ### ways along edges that have names -/
section
variable {α : Type} [DecidableEq α]
/-- from s by these names to v -/
inductive Pt (sc : α → List (Str × α)) (s : α) : List Str → α → Prop where
  | nil : Pt sc s [] s
  | snoc {ls : List Str} {x : α} {e : Str × α} (h : Pt sc s ls x) (he : e ∈ sc x) : Pt sc s (ls ++ [e.1]) e.2
/-- a search: the things met, each by a way; the first `at` are done, of the next the edges E -/
structure BIn (sc : α → List (Str × α)) (s : α) (at_ : Nat) (E : List (Str × α)) (qs : List (α × List Str)) : Prop where
  nd : (qs.map (·.1)).Nodup
  ini : qs[0]? = some (s, [])
  pt : ∀ q ∈ qs, Pt sc s q.2 q.1
  mono : ∀ (i j : Nat) (p q : α × List Str), i ≤ j → qs[i]? = some p → qs[j]? = some q → p.2.length ≤ q.2.length
  lev : ∀ c, qs[at_]? = some c → ∀ q ∈ qs, q.2.length ≤ c.2.length + 1
  cl : ∀ (i : Nat) (c : α × List Str), i < at_ → qs[i]? = some c → ∀ e ∈ sc c.1, ∃ q ∈ qs, q.1 = e.2 ∧ q.2.length ≤ c.2.length + 1
  cE : ∀ c, qs[at_]? = some c → ∀ e ∈ E, ∃ q ∈ qs, q.1 = e.2 ∧ q.2.length ≤ c.2.length + 1
variable {sc : α → List (Str × α)} {s : α} {at_ : Nat} {E : List (Str × α)} {qs : List (α × List Str)}
theorem BIn.start (sc : α → List (Str × α)) (s : α) : BIn sc s 0 [] [(s, [])] where
  nd := by simp
  ini := rfl
  pt := fun q hq => by
    rw [List.mem_singleton.mp hq]
    exact .nil
  mono := fun i j p q _ hp hq => by
    have h1 := List.mem_of_getElem? hp
    have h2 := List.mem_of_getElem? hq
    rw [List.mem_singleton.mp h1, List.mem_singleton.mp h2]
    exact Nat.le_refl _
  lev := fun c hc q hq => by
    rw [List.mem_singleton.mp hq]
    exact Nat.zero_le _
  cl := fun i c h => by omega
  cE := fun c _ e he => nomatch he
/-- an edge to what was met -/
theorem BIn.old (b : BIn sc s at_ E qs) {e : Str × α} (h : e.2 ∈ qs.map (·.1)) : BIn sc s at_ (E ++ [e]) qs := { b with
  cE := fun c hc e' he => by
    rcases List.mem_append.mp he with he | he
    · exact b.cE c hc e' he
    · rw [List.mem_singleton.mp he]
      obtain ⟨q, hq, e1⟩ := List.mem_map.mp h
      exact ⟨q, hq, e1, b.lev c hc q hq⟩ }
/-- an edge to a new thing -/
theorem BIn.new (b : BIn sc s at_ E qs) {c : α × List Str} (hc : qs[at_]? = some c) {e : Str × α} (he : e ∈ sc c.1) (h : e.2 ∉ qs.map (·.1)) : BIn sc s at_ (E ++ [e]) (qs ++ [(e.2, c.2 ++ [e.1])]) := by
  have hlt : at_ < qs.length := (List.getElem?_eq_some_iff.mp hc).1
  have old : ∀ {i : Nat} {x : α × List Str}, i < qs.length → (qs ++ [(e.2, c.2 ++ [e.1])])[i]? = some x → qs[i]? = some x := fun hi hx => by rwa [List.getElem?_append_left hi] at hx
  have hc' : ∀ x, (qs ++ [(e.2, c.2 ++ [e.1])])[at_]? = some x → x = c := fun x hx => by
    have := old hlt hx
    rw [hc] at this
    exact (Option.some.inj this).symm
  refine ⟨?_, ?_, fun q hq => ?_, fun i j p q hij hp hq => ?_, fun x hx q hq => ?_, fun i x hi hx e' he' => ?_, fun x hx e' he' => ?_⟩
  · rw [List.map_append, List.nodup_append]
    exact ⟨b.nd, by simp, fun x hx y hy => by
      rw [List.map_cons, List.map_nil, List.mem_singleton] at hy
      rintro rfl
      rw [hy] at hx
      exact h hx⟩
  · rw [List.getElem?_append_left (Nat.lt_of_le_of_lt (Nat.zero_le _) hlt)]
    exact b.ini
  · rcases List.mem_append.mp hq with hq | hq
    · exact b.pt q hq
    · rw [List.mem_singleton.mp hq]
      exact .snoc (b.pt c (List.mem_of_getElem? hc)) he
  · have key : ∀ {k : Nat} {x : α × List Str}, (qs ++ [(e.2, c.2 ++ [e.1])])[k]? = some x → (k < qs.length ∧ qs[k]? = some x) ∨ (k = qs.length ∧ x = (e.2, c.2 ++ [e.1])) := fun {k x} hx => by
      by_cases hk : k < qs.length
      · exact .inl ⟨hk, old hk hx⟩
      · have hk2 := (List.getElem?_eq_some_iff.mp hx).1
        rw [List.length_append, List.length_singleton] at hk2
        have hk3 : k = qs.length := by omega
        subst hk3
        rw [List.getElem?_append_right (Nat.le_refl _), Nat.sub_self] at hx
        exact .inr ⟨rfl, (Option.some.inj hx).symm⟩
    rcases key hp with ⟨h1, hp⟩ | ⟨h1, rfl⟩ <;> rcases key hq with ⟨h2, hq⟩ | ⟨h2, rfl⟩
    · exact b.mono i j p q hij hp hq
    · have := b.lev c hc p (List.mem_of_getElem? hp)
      rw [List.length_append, List.length_singleton]
      exact this
    · omega
    · exact Nat.le_refl _
  · rw [hc' x hx]
    rcases List.mem_append.mp hq with hq | hq
    · exact b.lev c hc q hq
    · rw [List.mem_singleton.mp hq, List.length_append]
      exact Nat.le_refl _
  · obtain ⟨q, hq, r⟩ := b.cl i x hi (old (by omega) hx) e' he'
    exact ⟨q, List.mem_append_left _ hq, r⟩
  · rw [hc' x hx]
    rcases List.mem_append.mp he' with he' | he'
    · obtain ⟨q, hq, r⟩ := b.cE c hc e' he'
      exact ⟨q, List.mem_append_left _ hq, r⟩
    · rw [List.mem_singleton.mp he']
      exact ⟨_, List.mem_append_right _ (List.mem_singleton.mpr rfl), rfl, by rw [List.length_append]; exact Nat.le_refl _⟩
/-- all edges of a thing are done -/
theorem BIn.next (b : BIn sc s at_ E qs) (hE : ∀ c, qs[at_]? = some c → ∀ e ∈ sc c.1, e ∈ E) (hlt : at_ < qs.length) : BIn sc s (at_ + 1) [] qs := by
  obtain ⟨c0, hc0⟩ : ∃ c, qs[at_]? = some c := ⟨_, List.getElem?_eq_getElem hlt⟩
  refine { b with lev := fun c hc q hq => ?_, cl := fun i c hi hc e he => ?_, cE := fun c _ e he => nomatch he }
  · have h1 := b.lev c0 hc0 q hq
    have h2 := b.mono at_ (at_ + 1) c0 c (Nat.le_succ _) hc0 hc
    omega
  · rcases Nat.lt_or_ge i at_ with h | h
    · exact b.cl i c h hc e he
    · have : i = at_ := by omega
      subst this
      exact b.cE c hc e (hE c hc e he)
/-- when all is done, all that can be met was met -/
theorem BIn.all (b : BIn sc s at_ [] qs) (h : qs.length ≤ at_) {ls : List Str} {v : α} (hp : Pt sc s ls v) : v ∈ qs.map (·.1) := by
  induction hp with
  | nil => exact List.mem_map.mpr ⟨_, List.mem_of_getElem? b.ini, rfl⟩
  | @snoc ls x e _ he ih =>
    obtain ⟨q, hq, rfl⟩ := List.mem_map.mp ih
    obtain ⟨i, hi⟩ := List.getElem?_of_mem hq
    have := (List.getElem?_eq_some_iff.mp hi).1
    obtain ⟨q', hq', e3, _⟩ := b.cl i q (by omega) hi e he
    exact List.mem_map.mpr ⟨q', hq', e3⟩
/-- things met out of a row: no more than it has -/
theorem BIn.few (b : BIn sc s at_ E qs) {N : List α} (h0 : s ∈ N) (hN : ∀ x ∈ N, ∀ e ∈ sc x, e.2 ∈ N) : qs.length ≤ N.length := by
  have := nd_sub (ys := N) b.nd fun x hx => by
    obtain ⟨q, hq, rfl⟩ := List.mem_map.mp hx
    have := b.pt q hq
    generalize q.1 = v at this
    generalize q.2 = ls at this
    induction this with
    | nil => exact h0
    | snoc _ he ih => exact hN _ ih _ he
  rwa [List.length_map] at this
end

/-! ### what is begun -/
def begM (m : Mc) (ps : List Nat) (x : Str) : List Nat := ((List.range m.at_.length).filter fun a => decide (a ∈ m.fi) || behM m ps a).filter fun a => tkM m a x
/-- the atoms by which the lane gone last is read -/
def stM (m : Mc) (ls : List Str) : List Nat := ls.foldl (begM m) []
end DL

/-! FM: dicts with nested keys: walked, copied (one entry), set beside the empty one (own work). -/
namespace DL
open PySem L2 PySem.W PyProof.Rows

section
variable {X : Cx} {pins : List (Addr × Obj)} {σ : L2.St} {H : Hp} {s : Shared} {d : Addr} {o : Obj} {xs : List (NestedKey × Addr × V)}
end
section
variable {X : Cx} {o i e tg : Expr} {pos pos' : Pos} {td ty tv tk : TE}
end

section
variable {K : PySem.W.Frag} {B F F0 : Hp} {ro : Ro} {ka k1 k2 k3 kr : Cells} {ta : List (V × W)} {sg : L2.St} {H H' : Hp} {te tf tg tk tv : TE} {tt : TT} {w x y : W} {n : Nd} {a : Addr} {b : Bool} {De : Ends} {u : TS} {wi : TI} {ws : List W}
end

/-! ### by data -/
section
variable {K : PySem.W.Frag} {B F F0 : Hp} {ro : Ro} {ka k1 k2 k3 kr : Cells} {ta : List (V × W)} {sg : L2.St} {H H' : Hp} {te tf tg tk tv : TE} {tt : TT} {w x y z : W} {a : Addr} {b : Bool} {wd : World} {ds : List (NestedKey × D)}
end
end DL

/-! FN: searches by levels of one distance; a machine told by a law (own work). -/
namespace DL
open PySem L2 PySem.W
section
variable {α : Type} [DecidableEq α] {sc : α → List (Str × α)} {s : α} {n : Nat} {L Kn N : List α} {G : α → Prop}
theorem pt_in (h0 : s ∈ N) (hN : ∀ x ∈ N, ∀ e ∈ sc x, e.2 ∈ N) {ls : List Str} {x : α} (h : Pt sc s ls x) : x ∈ N := by
  induction h with
  | nil => exact h0
  | snoc _ he ih => exact hN _ ih _ he
theorem pt_last {ls : List Str} {y : α} (h : Pt sc s ls y) : (ls = [] ∧ y = s) ∨ ∃ us x e, Pt sc s us x ∧ e ∈ sc x ∧ e.2 = y ∧ ls = us ++ [e.1] := by
  cases h with
  | nil => exact .inl ⟨rfl, rfl⟩
  | snoc h he => exact .inr ⟨_, _, _, h, he, rfl, rfl⟩
/-- L is what is met behind n steps and not earlier, Kn what is met behind n steps or earlier -/
structure LvI (sc : α → List (Str × α)) (s : α) (n : Nat) (L Kn : List α) : Prop where
  nd : Kn.Nodup
  sub : ∀ x ∈ L, x ∈ Kn
  ndL : L.Nodup
  pt : ∀ x ∈ L, ∃ ls, ls.length = n ∧ Pt sc s ls x
  rc : ∀ x ∈ Kn, ∃ ls, Pt sc s ls x
  kn : ∀ ls x, Pt sc s ls x → ls.length ≤ n → x ∈ Kn
  lv : ∀ x ∈ Kn, x ∈ L ∨ ∃ ls, ls.length < n ∧ Pt sc s ls x
theorem LvI.start (sc : α → List (Str × α)) (s : α) : LvI sc s 0 [s] [s] where
  nd := List.nodup_cons.mpr ⟨List.not_mem_nil, List.nodup_nil⟩
  ndL := List.nodup_cons.mpr ⟨List.not_mem_nil, List.nodup_nil⟩
  sub := fun _ h => h
  pt := fun x h => ⟨[], rfl, by rw [List.mem_singleton.mp h]; exact .nil⟩
  rc := fun x h => ⟨[], by rw [List.mem_singleton.mp h]; exact .nil⟩
  kn := fun ls x h hl => by
    rcases pt_last h with ⟨_, e⟩ | ⟨us, y, e, _, _, _, e2⟩
    · exact List.mem_singleton.mpr e
    · rw [e2, List.length_append, List.length_singleton] at hl
      omega
  lv := fun x h => .inl h
theorem LvI.next (h : LvI sc s n L Kn) {F : List α} (hF : ∀ y, y ∈ F ↔ ∃ x ∈ L, ∃ e ∈ sc x, e.2 = y) (nF : F.Nodup) {p : α → Bool} (hp : ∀ y, p y = true ↔ y ∉ Kn) : LvI sc s (n + 1) (F.filter p) (Kn ++ F.filter p) := by
  have new : ∀ x, x ∈ F.filter p ↔ x ∈ F ∧ x ∉ Kn := fun x => by rw [List.mem_filter, hp]
  have step : ∀ y ∈ F, ∃ ls, ls.length = n + 1 ∧ Pt sc s ls y := fun y hy => by
    obtain ⟨x, hx, e, he, rfl⟩ := (hF y).mp hy
    obtain ⟨ls, hl, hp⟩ := h.pt x hx
    exact ⟨ls ++ [e.1], by rw [List.length_append, hl]; rfl, hp.snoc he⟩
  refine ⟨?_, fun x hx => List.mem_append_right _ hx, nF.filter _, fun x hx => step x ((new x).mp hx).1, fun x hx => ?_, fun ls x hp hl => ?_, fun x hx => ?_⟩
  · rw [List.nodup_append]
    exact ⟨h.nd, nF.filter _, fun x hx y hy e => ((new y).mp hy).2 (e ▸ hx)⟩
  · rcases List.mem_append.mp hx with hx | hx
    · exact h.rc x hx
    · obtain ⟨ls, _, hp⟩ := step x ((new x).mp hx).1
      exact ⟨ls, hp⟩
  · by_cases hx : x ∈ Kn
    · exact List.mem_append_left _ hx
    · refine List.mem_append_right _ ((new x).mpr ⟨?_, hx⟩)
      rcases pt_last hp with ⟨e1, e2⟩ | ⟨us, y, e, hy, he, e2, e3⟩
      · exact absurd (h.kn [] x (by rw [e2]; exact .nil) (Nat.zero_le _)) hx
      · rw [e3, List.length_append, List.length_singleton] at hl
        rcases h.lv y (h.kn us y hy (by omega)) with hL | ⟨vs, hv, hy2⟩
        · exact (hF x).mpr ⟨y, hL, e, he, e2⟩
        · exact absurd (h.kn (vs ++ [e.1]) x (e2 ▸ hy2.snoc he) (by rw [List.length_append, List.length_singleton]; omega)) hx
  · rcases List.mem_append.mp hx with hx | hx
    · rcases h.lv x hx with hL | ⟨ls, hl, hp⟩
      · obtain ⟨ls, hl, hp⟩ := h.pt x hL
        exact .inr ⟨ls, by omega, hp⟩
      · exact .inr ⟨ls, by omega, hp⟩
    · exact .inl hx
theorem LvI.short (h : LvI sc s n [] Kn) : ∀ ls x, Pt sc s ls x → ∃ us, us.length < n ∧ Pt sc s us x := by
  intro ls x hp
  induction hp with
  | nil =>
    rcases h.lv s (h.kn [] s .nil (Nat.zero_le _)) with hL | hL
    · cases hL
    · exact hL
  | @snoc ls x e _ he ih =>
    obtain ⟨us, hu, hp⟩ := ih
    rcases h.lv e.2 (h.kn _ _ (hp.snoc he) (by rw [List.length_append, List.length_singleton]; omega)) with hL | hL
    · cases hL
    · exact hL
theorem LvI.over (h : LvI sc s n [] Kn) (no : ∀ ls x, Pt sc s ls x → ls.length < n → ¬ G x) : ∀ ls x, Pt sc s ls x → ¬ G x := fun ls x hp => by
  obtain ⟨us, hu, hp2⟩ := h.short ls x hp
  exact no us x hp2 hu
theorem LvI.few (h : LvI sc s n L Kn) (h0 : s ∈ N) (hN : ∀ x ∈ N, ∀ e ∈ sc x, e.2 ∈ N) : Kn.length ≤ N.length := nd_sub h.nd fun x hx => by
  obtain ⟨ls, hp⟩ := h.rc x hx
  exact pt_in h0 hN hp
end
/-! ### a machine as a law makes it -/
/-- the same machine, its parts in another order -/
structure McE (m n : Mc) : Prop where
  at_ : m.at_ = n.at_
  fi : ∀ a, a ∈ m.fi ↔ a ∈ n.fi
  la : ∀ a, a ∈ m.la ↔ a ∈ n.la
  pr : ∀ p, p ∈ m.pr ↔ p ∈ n.pr
  op : m.op = n.op
section
variable {m n : Mc}
theorem McE.tk (e : McE m n) (a : Nat) (x : Str) : tkM m a x = tkM n a x := by
  unfold tkM
  rw [e.at_]
theorem McE.beh (e : McE m n) (ps : List Nat) (a : Nat) : behM m ps a = behM n ps a := by
  unfold behM
  simp only [e.pr]
theorem McE.beg (e : McE m n) (ps : List Nat) (x : Str) : begM m ps x = begM n ps x := by
  unfold begM
  simp only [e.tk, e.beh, e.fi, e.at_]
theorem McE.done (e : McE m n) (ps : List Nat) : doneM m ps = doneM n ps := by
  unfold doneM
  simp only [e.la]
theorem McE.st (e : McE m n) (ls : List Str) : stM m ls = stM n ls := by
  unfold stM
  rw [show begM m = begM n from funext fun ps => funext fun x => e.beg ps x]
theorem McE.refl : McE m m := ⟨rfl, fun _ => Iff.rfl, fun _ => Iff.rfl, fun _ => Iff.rfl, rfl⟩
end
end DL

/-! FO: shortest words that part two machines, searched by levels, in plain Lean (own work). -/
namespace DL
open PySem L2 PySem.W

/-! ### sub-rows again -/
theorem subs_iff {α : Type} {xs ys : List α} : ys ∈ subs xs ↔ ys.Sublist xs := by
  induction xs generalizing ys with
  | nil => rw [subs, List.mem_singleton, List.sublist_nil]
  | cons x xs ih =>
    rw [subs, List.mem_append, List.mem_map]
    constructor
    · rintro (h | ⟨zs, h, rfl⟩)
      · exact (ih.mp h).cons _
      · exact (ih.mp h).cons_cons _
    · intro h
      cases h with
      | cons _ h => exact .inl (ih.mpr h)
      | cons_cons _ h => exact .inr ⟨_, ih.mpr h, rfl⟩
theorem mc_fi_sub : ∀ (t : Tr) (s : Nat), (mcT t s).fi.Sublist (List.range' s (mcT t s).at_.length)
  | .at k ns, s => List.Sublist.refl _
  | .rep a, s => mc_fi_sub a s
  | .opt a, s => mc_fi_sub a s
  | .either a b, s => by
    show ((mcT a s).fi ++ (mcT b (s + (mcT a s).at_.length)).fi).Sublist (List.range' s ((mcT a s).at_ ++ (mcT b (s + (mcT a s).at_.length)).at_).length)
    rw [List.length_append, ← List.range'_append_1]
    exact (mc_fi_sub a s).append (mc_fi_sub b _)
  | .join a b, s => by
    show (if (mcT a s).op then (mcT a s).fi ++ (mcT b (s + (mcT a s).at_.length)).fi else (mcT a s).fi).Sublist (List.range' s ((mcT a s).at_ ++ (mcT b (s + (mcT a s).at_.length)).at_).length)
    rw [List.length_append, ← List.range'_append_1]
    split
    · exact (mc_fi_sub a s).append (mc_fi_sub b _)
    · exact (mc_fi_sub a s).trans (List.sublist_append_left _ _)
theorem start_sub (t : Tr) (x : Str) : startM (mcT t 0) x ∈ subs (List.range (mcT t 0).at_.length) := by
  rw [subs_iff, List.range_eq_range']
  exact (List.filter_sublist).trans (mc_fi_sub t 0)
theorem after_sub (m : Mc) (ps : List Nat) (x : Str) : afterM m ps x ∈ subs (List.range m.at_.length) := flt_subs _ _

/-! ### words and what two machines make of them -/
abbrev P2 := List Nat × List Nat
def st2 (m n : Mc) (w : List Str) : P2 := (runM m w, runM n w)
def nx2 (m n : Mc) (p : P2) (x : Str) : P2 := (afterM m p.1 x, afterM n p.2 x)
theorem st2_snoc {m n : Mc} {w : List Str} {x : Str} (h : w ≠ []) : st2 m n (w ++ [x]) = nx2 m n (st2 m n w) x := by
  unfold st2 nx2
  rw [run_snoc h, run_snoc h]
/-- all pairs there can be -/
def p2All (m n : Mc) : List P2 := (subs (List.range m.at_.length)).flatMap fun a => (subs (List.range n.at_.length)).map fun b => (a, b)
theorem p2All_len (m n : Mc) : (p2All m n).length = 2 ^ m.at_.length * 2 ^ n.at_.length := by
  have key : ∀ (xs : List (List Nat)), (xs.flatMap fun a => (subs (List.range n.at_.length)).map fun b => (a, b)).length = xs.length * 2 ^ n.at_.length := fun xs => by
    induction xs with
    | nil => simp
    | cons x xs ih => rw [List.flatMap_cons, List.length_append, ih, List.length_map, subs_len, List.length_range, List.length_cons, Nat.add_mul, Nat.one_mul, Nat.add_comm]
  unfold p2All
  rw [key, subs_len, List.length_range]
theorem p2All_mem {m n : Mc} {p : P2} (h1 : p.1 ∈ subs (List.range m.at_.length)) (h2 : p.2 ∈ subs (List.range n.at_.length)) : p ∈ p2All m n :=
  List.mem_flatMap.mpr ⟨p.1, h1, List.mem_map.mpr ⟨p.2, h2, rfl⟩⟩
theorem st2_all (t u : Tr) {w : List Str} (h : w ≠ []) : st2 (mcT t 0) (mcT u 0) w ∈ p2All (mcT t 0) (mcT u 0) := by
  have key : ∀ (t : Tr) (w : List Str), w ≠ [] → runM (mcT t 0) w ∈ subs (List.range (mcT t 0).at_.length) := fun t w h => by
    obtain ⟨ys, y, rfl⟩ : ∃ ys y, w = ys ++ [y] := ⟨w.dropLast, w.getLast h, (List.dropLast_concat_getLast h).symm⟩
    by_cases e : ys = []
    · subst e
      exact start_sub t y
    · rw [run_snoc e]
      exact after_sub _ _ _
  exact p2All_mem (key t w h) (key u w h)

/-! ### the search -/
/-- words told so far; the first `at_` are done; ks: the pairs that were met -/
structure WIn (m n : Mc) (N : List Str) (at_ : Nat) (ks : List P2) (qs : List (List Str)) : Prop where
  ini : ∀ x ∈ N, [x] ∈ qs
  ne : ∀ q ∈ qs, q ≠ []
  mono : ∀ (i j : Nat) (p q : List Str), i ≤ j → qs[i]? = some p → qs[j]? = some q → p.length ≤ q.length
  lev : ∀ c, qs[at_]? = some c → ∀ q ∈ qs, q.length ≤ c.length + 1
  old : ∀ k ∈ ks, ∃ (j : Nat) (q : List Str), j < at_ ∧ qs[j]? = some q ∧ st2 m n q = k ∧ ∀ x ∈ N, q ++ [x] ∈ qs
  kn : ∀ (i : Nat) (c : List Str), i < at_ → qs[i]? = some c → st2 m n c ∈ ks
  cl : ∀ (i : Nat) (c : List Str), i < at_ → qs[i]? = some c → ∃ (j : Nat) (q : List Str), j ≤ i ∧ qs[j]? = some q ∧ st2 m n q = st2 m n c ∧ ∀ x ∈ N, q ++ [x] ∈ qs
  nd : ks.Nodup
  len : qs.length = N.length * (ks.length + 1)
  ll : ∀ q ∈ qs, q.length ≤ ks.length + 1
  lt : ∀ q ∈ qs, ∀ x ∈ q, x ∈ N
section
variable {m n : Mc} {N : List Str} {at_ : Nat} {ks : List P2} {qs : List (List Str)}
theorem WIn.start (m n : Mc) (N : List Str) : WIn m n N 0 [] (N.map fun x => [x]) where
  ini := fun x hx => List.mem_map.mpr ⟨x, hx, rfl⟩
  ne := fun q hq => by
    obtain ⟨x, _, rfl⟩ := List.mem_map.mp hq
    exact List.cons_ne_nil _ _
  mono := fun i j p q _ hp hq => by
    obtain ⟨x, _, rfl⟩ := List.mem_map.mp (List.mem_of_getElem? hp)
    obtain ⟨y, _, rfl⟩ := List.mem_map.mp (List.mem_of_getElem? hq)
    exact Nat.le_refl _
  lev := fun c _ q hq => by
    obtain ⟨x, _, rfl⟩ := List.mem_map.mp hq
    exact Nat.succ_le_succ (Nat.zero_le _)
  old := fun k hk => nomatch hk
  kn := fun i c h => absurd h (Nat.not_lt_zero _)
  cl := fun i c h => absurd h (Nat.not_lt_zero _)
  nd := List.nodup_nil
  len := by rw [List.length_map]; exact (Nat.mul_one _).symm
  ll := fun q hq => by
    obtain ⟨x, _, rfl⟩ := List.mem_map.mp hq
    exact Nat.le_refl _
  lt := fun q hq y hy => by
    obtain ⟨x, hx, rfl⟩ := List.mem_map.mp hq
    rw [List.mem_singleton.mp hy]
    exact hx
/-- a pair that was met -/
theorem WIn.again (b : WIn m n N at_ ks qs) {c : List Str} (hc : qs[at_]? = some c) (h : st2 m n c ∈ ks) : WIn m n N (at_ + 1) ks qs := { b with
  lev := fun d hd q hq => by
    have h1 := b.lev c hc q hq
    have h2 := b.mono at_ (at_ + 1) c d (Nat.le_succ _) hc hd
    omega
  old := fun k hk => by
    obtain ⟨j, q, h1, r⟩ := b.old k hk
    exact ⟨j, q, Nat.lt_succ_of_lt h1, r⟩
  kn := fun i d hi hd => by
    rcases Nat.lt_or_ge i at_ with g | g
    · exact b.kn i d g hd
    · have : i = at_ := by omega
      subst this
      rw [hc] at hd
      cases hd
      exact h
  cl := fun i d hi hd => by
    rcases Nat.lt_or_ge i at_ with g | g
    · exact b.cl i d g hd
    · have : i = at_ := by omega
      subst this
      rw [hc] at hd
      cases hd
      obtain ⟨j, q, h1, h2, h3, h4⟩ := b.old _ h
      exact ⟨j, q, Nat.le_of_lt h1, h2, h3, h4⟩ }
/-- a new pair -/
theorem WIn.new (b : WIn m n N at_ ks qs) {c : List Str} (hc : qs[at_]? = some c) (h : st2 m n c ∉ ks) : WIn m n N (at_ + 1) (ks ++ [st2 m n c]) (qs ++ N.map fun x => c ++ [x]) := by
  have hlt : at_ < qs.length := (List.getElem?_eq_some_iff.mp hc).1
  have up : ∀ {i : Nat} {x : List Str}, qs[i]? = some x → (qs ++ N.map fun x => c ++ [x])[i]? = some x := fun {i x} hx => by rwa [List.getElem?_append_left (List.getElem?_eq_some_iff.mp hx).1]
  have key : ∀ {k : Nat} {x : List Str}, (qs ++ N.map fun x => c ++ [x])[k]? = some x → (k < qs.length ∧ qs[k]? = some x) ∨ (qs.length ≤ k ∧ x.length = c.length + 1) := fun {k x} hx => by
    by_cases hk : k < qs.length
    · rw [List.getElem?_append_left hk] at hx
      exact .inl ⟨hk, hx⟩
    · rw [List.getElem?_append_right (Nat.le_of_not_lt hk)] at hx
      obtain ⟨y, _, rfl⟩ := List.mem_map.mp (List.mem_of_getElem? hx)
      exact .inr ⟨Nat.le_of_not_lt hk, by rw [List.length_append]; rfl⟩
  have low : ∀ {i : Nat} {x : List Str}, i < at_ + 1 → (qs ++ N.map fun x => c ++ [x])[i]? = some x → qs[i]? = some x := fun {i x} hi hx => by
    rcases key hx with ⟨_, h⟩ | ⟨h, _⟩
    · exact h
    · omega
  have le1 : ∀ {q : List Str}, q ∈ qs ++ N.map (fun x => c ++ [x]) → q.length ≤ c.length + 1 := fun {q} hq => by
    rcases List.mem_append.mp hq with hq | hq
    · exact b.lev c hc q hq
    · obtain ⟨y, _, rfl⟩ := List.mem_map.mp hq
      rw [List.length_append]
      exact Nat.le_refl _
  have own : ∀ x ∈ N, c ++ [x] ∈ qs ++ N.map (fun x => c ++ [x]) := fun x hx => List.mem_append_right _ (List.mem_map.mpr ⟨x, hx, rfl⟩)
  refine ⟨fun x hx => List.mem_append_left _ (b.ini x hx), fun q hq => ?_, fun i j p q hij hp hq => ?_, fun d hd q hq => ?_, fun k hk => ?_, fun i d hi hd => ?_, fun i d hi hd => ?_, ?_, ?_, fun q hq => ?_, fun q hq z hz => ?_⟩
  · rcases List.mem_append.mp hq with hq | hq
    · exact b.ne q hq
    · obtain ⟨y, _, rfl⟩ := List.mem_map.mp hq
      simp
  · rcases key hp with ⟨h1, hp⟩ | ⟨h1, e1⟩ <;> rcases key hq with ⟨h2, hq⟩ | ⟨h2, e2⟩
    · exact b.mono i j p q hij hp hq
    · rw [e2]
      exact b.lev c hc p (List.mem_of_getElem? hp)
    · omega
    · omega
  · have h1 := le1 hq
    have h2 : c.length ≤ d.length := by
      rcases key hd with ⟨_, hd⟩ | ⟨_, e⟩
      · exact b.mono at_ (at_ + 1) c d (Nat.le_succ _) hc hd
      · omega
    omega
  · rcases List.mem_append.mp hk with hk | hk
    · obtain ⟨j, q, h1, h2, h3, h4⟩ := b.old k hk
      exact ⟨j, q, Nat.lt_succ_of_lt h1, up h2, h3, fun x hx => List.mem_append_left _ (h4 x hx)⟩
    · rw [List.mem_singleton.mp hk]
      exact ⟨at_, c, Nat.lt_succ_self _, up hc, rfl, own⟩
  · have hd' := low hi hd
    rcases Nat.lt_or_ge i at_ with g | g
    · exact List.mem_append_left _ (b.kn i d g hd')
    · have : i = at_ := by omega
      subst this
      rw [hc] at hd'
      cases hd'
      exact List.mem_append_right _ (List.mem_singleton.mpr rfl)
  · have hd' := low hi hd
    rcases Nat.lt_or_ge i at_ with g | g
    · obtain ⟨j, q, h1, h2, h3, h4⟩ := b.cl i d g hd'
      exact ⟨j, q, h1, up h2, h3, fun x hx => List.mem_append_left _ (h4 x hx)⟩
    · have : i = at_ := by omega
      subst this
      rw [hc] at hd'
      cases hd'
      exact ⟨i, c, Nat.le_refl _, up hc, rfl, own⟩
  · rw [List.nodup_append]
    exact ⟨b.nd, by simp, fun x hx y hy => by
      rintro rfl
      rw [List.mem_singleton.mp hy] at hx
      exact h hx⟩
  · rw [List.length_append, List.length_map, b.len, List.length_append, List.length_singleton, Nat.mul_succ N.length (ks.length + 1)]
  · rw [List.length_append, List.length_singleton]
    rcases List.mem_append.mp hq with hq | hq
    · exact Nat.le_succ_of_le (b.ll q hq)
    · obtain ⟨y, _, rfl⟩ := List.mem_map.mp hq
      rw [List.length_append]
      exact Nat.succ_le_succ (b.ll c (List.mem_of_getElem? hc))
  · rcases List.mem_append.mp hq with hq | hq
    · exact b.lt q hq z hz
    · obtain ⟨y, hy, rfl⟩ := List.mem_map.mp hq
      rcases List.mem_append.mp hz with hz | hz
      · exact b.lt c (List.mem_of_getElem? hc) z hz
      · rw [List.mem_singleton.mp hz]
        exact hy
/-- every word is met, or one no longer is still to come -/
theorem WIn.met (b : WIn m n N at_ ks qs) {w : List Str} (hne : w ≠ []) (hN : ∀ x ∈ w, x ∈ N) : ∃ (i : Nat) (q : List Str), qs[i]? = some q ∧ q.length ≤ w.length ∧ ((i < at_ ∧ st2 m n q = st2 m n w) ∨ at_ ≤ i) := by
  induction w using list_snoc_ind with
  | nil => exact absurd rfl hne
  | snoc w x ih =>
    have hx := hN x (List.mem_append_right _ (List.mem_singleton.mpr rfl))
    have fin : ∀ q, q ∈ qs → q.length ≤ (w ++ [x]).length → st2 m n q = st2 m n (w ++ [x]) → ∃ (i : Nat) (q : List Str), qs[i]? = some q ∧ q.length ≤ (w ++ [x]).length ∧ ((i < at_ ∧ st2 m n q = st2 m n (w ++ [x])) ∨ at_ ≤ i) := fun q hq hl he => by
      obtain ⟨i, hi⟩ := List.getElem?_of_mem hq
      rcases Nat.lt_or_ge i at_ with g | g
      · exact ⟨i, q, hi, hl, .inl ⟨g, he⟩⟩
      · exact ⟨i, q, hi, hl, .inr g⟩
    by_cases e : w = []
    · subst e
      exact fin [x] (b.ini x hx) (Nat.le_refl _) rfl
    · obtain ⟨i, q, hq, hl, h | h⟩ := ih e fun y hy => hN y (List.mem_append_left _ hy)
      · obtain ⟨j, p, h1, h2, h3, h4⟩ := b.cl i q h.1 hq
        have hp := List.mem_of_getElem? h2
        have hpl := b.mono j i p q h1 h2 hq
        refine fin (p ++ [x]) (h4 x hx) ?_ ?_
        · rw [List.length_append, List.length_append, List.length_singleton]
          omega
        · rw [st2_snoc (b.ne p hp), st2_snoc e, h3, h.2]
      · exact ⟨i, q, hq, by rw [List.length_append]; omega, .inr h⟩
theorem WIn.none (b : WIn m n N at_ ks qs) {G : P2 → Prop} (no : ∀ k ∈ ks, ¬ G k) (h : qs.length ≤ at_) {w : List Str} (hne : w ≠ []) (hN : ∀ x ∈ w, x ∈ N) : ¬ G (st2 m n w) := fun hg => by
  obtain ⟨i, q, hq, hl, g | g⟩ := b.met hne hN
  · exact no _ (b.kn i q g.1 hq) (g.2 ▸ hg)
  · have := (List.getElem?_eq_some_iff.mp hq).1
    omega
end

section
variable {t u : Tr} {one : Bool} {N : List Str} {f : Str} {at_ : Nat} {ks : List P2} {qs : List (List Str)}
end

end DL

/-! FP: what machines of like trees make of words; how many pairs there are; how many ends (own work). -/
namespace DL
open PySem L2 PySem.W

section
variable {m n : Mc}
end
theorem run_rep2 (a : Tr) (w : List Str) : runM (mcT (.rep (.rep a)) 0) w = runM (mcT (.rep a) 0) w := by
  have af : ∀ ps x, afterM (mcT (.rep (.rep a)) 0) ps x = afterM (mcT (.rep a) 0) ps x := fun ps x => by
    refine List.filter_congr fun b _ => ?_
    have : behM (mcT (.rep (.rep a)) 0) ps b = behM (mcT (.rep a) 0) ps b := by
      unfold behM
      rw [Bool.eq_iff_iff, List.any_eq_true, List.any_eq_true]
      constructor
      · rintro ⟨p, hp, h⟩
        refine ⟨p, hp, decide_eq_true ?_⟩
        rcases List.mem_append.mp (of_decide_eq_true h) with h | h
        · exact h
        · exact List.mem_append_right _ h
      · rintro ⟨p, hp, h⟩
        exact ⟨p, hp, decide_eq_true (List.mem_append_left _ (of_decide_eq_true h))⟩
    rw [this]
    rfl
  have fold : ∀ (r : List Str) (ps : List Nat), r.foldl (afterM (mcT (.rep (.rep a)) 0)) ps = r.foldl (afterM (mcT (.rep a) 0)) ps := fun r => by
    induction r with
    | nil => exact fun _ => rfl
    | cons x r ih => exact fun ps => by rw [List.foldl_cons, List.foldl_cons, af, ih]
  cases w with
  | nil => rfl
  | cons x r => exact fold r _

/-! ### how many pairs there are -/
/-- all that two machines make of words stands in a row of c pairs -/
def PrOk (t u : Tr) (c : Nat) : Prop := ∃ PA : List P2, PA.length ≤ c ∧ ∀ w, w ≠ [] → st2 (mcT t 0) (mcT u 0) w ∈ PA
theorem PrOk.up {t u : Tr} {c d : Nat} (h : PrOk t u c) (hd : c ≤ d) : PrOk t u d := by
  obtain ⟨PA, h1, h2⟩ := h
  exact ⟨PA, by omega, h2⟩
theorem PrOk.all (t u : Tr) : PrOk t u (2 ^ t.ats * 2 ^ u.ats) := ⟨p2All (mcT t 0) (mcT u 0), by rw [p2All_len, mc_at_len, mc_at_len]; exact Nat.le_refl _, fun w h => st2_all t u h⟩
theorem PrOk.swap {t u : Tr} {c : Nat} (h : PrOk t u c) : PrOk u t c := by
  obtain ⟨PA, h1, h2⟩ := h
  exact ⟨PA.map fun p => (p.2, p.1), by rw [List.length_map]; exact h1, fun w hw => List.mem_map.mpr ⟨_, h2 w hw, rfl⟩⟩
/-- what the second makes is told by what others make -/
theorem PrOk.by {t u v : Tr} {c : Nat} (h : PrOk t v c) (f : P2 → List Nat) (hf : ∀ w, runM (mcT u 0) w = f (st2 (mcT t 0) (mcT v 0) w)) : PrOk t u c := by
  obtain ⟨PA, h1, h2⟩ := h
  exact ⟨PA.map fun p => (p.1, f p), by rw [List.length_map]; exact h1, fun w hw => List.mem_map.mpr ⟨_, h2 w hw, by unfold st2; rw [hf]; rfl⟩⟩
theorem PrOk.same (t : Tr) : PrOk t t (2 ^ t.ats) := by
  refine ⟨(subs (List.range (mcT t 0).at_.length)).map fun a => (a, a), by rw [List.length_map, subs_len, List.length_range, mc_at_len]; exact Nat.le_refl _, fun w hw => List.mem_map.mpr ⟨runM (mcT t 0) w, ?_, rfl⟩⟩
  have := st2_all t t hw
  obtain ⟨a, ha, h⟩ := List.mem_flatMap.mp this
  obtain ⟨b, hb, e⟩ := List.mem_map.mp h
  rw [← show a = runM (mcT t 0) w from congrArg Prod.fst e]
  exact ha
theorem PrOk.opt (t : Tr) : PrOk t (.opt t) (2 ^ t.ats) := (PrOk.same t).by (fun p => p.2) fun w => rfl
theorem PrOk.rep (t : Tr) : PrOk (.rep t) (.rep (.rep t)) (2 ^ t.ats) := (PrOk.same (.rep t)).by (fun p => p.2) fun w => run_rep2 t w
/-! ### how many ends there are -/
def EB (n : Nat) : Tr → Nat
  | .at _ _ => 1
  | .either a b => EB n a + EB n b
  | .opt a => EB n a + 1
  | .join a b => (n + 1) * EB n b
  | .rep a => n + 1
/-- the rows stay short -/
def EbOk (n : Nat) : Tr → Prop
  | .at _ _ => True
  | .either a b => EbOk n a ∧ EbOk n b ∧ EB n a + EB n b ≤ 90000
  | .opt a => EbOk n a ∧ EB n a + 1 ≤ 90000
  | .join a b => EbOk n a ∧ EbOk n b ∧ EB n a ≤ 50000 ∧ (n + 1) * EB n b ≤ 90000
  | .rep a => EbOk n a ∧ EB n a ≤ 90000
theorem EB_dep {n : Nat} (hn : 1 ≤ n) : ∀ {t : Tr}, (t.dep = 0 → EB n t ≤ 1) ∧ (t.dep ≤ 1 → EB n t ≤ n + 1) ∧ (t.dep ≤ 2 → EB n t ≤ (n + 1) * (n + 1))
  | .at kd ns => ⟨fun _ => Nat.le_refl _, fun _ => by show 1 ≤ _; omega, fun _ => by show 1 ≤ _; exact Nat.mul_pos (by omega) (by omega)⟩
  | .rep a => by
    refine ⟨fun h => (by cases h), fun h => Nat.le_refl _, fun h => ?_⟩
    show n + 1 ≤ (n + 1) * (n + 1)
    exact Nat.le_mul_of_pos_right _ (by omega)
  | .opt a => by
    obtain ⟨h0, h1, h2⟩ := EB_dep hn (t := a)
    refine ⟨fun h => (by cases h), fun h => ?_, fun h => ?_⟩
    · have := h0 (by have : a.dep + 1 ≤ 1 := h; omega)
      show EB n a + 1 ≤ _
      omega
    · have := h1 (by have : a.dep + 1 ≤ 2 := h; omega)
      show EB n a + 1 ≤ (n + 1) * (n + 1)
      have e : (n + 1) * (n + 1) = n * (n + 1) + (n + 1) := Nat.succ_mul n (n + 1)
      have : 1 ≤ n * (n + 1) := Nat.mul_pos (by omega) (by omega)
      omega
  | .either a b => by
    obtain ⟨h0, h1, h2⟩ := EB_dep hn (t := a)
    obtain ⟨g0, g1, g2⟩ := EB_dep hn (t := b)
    refine ⟨fun h => (by cases h), fun h => ?_, fun h => ?_⟩
    · have h : max a.dep b.dep + 1 ≤ 1 := h
      have := h0 (by omega)
      have := g0 (by omega)
      show EB n a + EB n b ≤ _
      omega
    · have h : max a.dep b.dep + 1 ≤ 2 := h
      have := h1 (by omega)
      have := g1 (by omega)
      show EB n a + EB n b ≤ (n + 1) * (n + 1)
      have e : (n + 1) * (n + 1) = n * (n + 1) + (n + 1) := Nat.succ_mul n (n + 1)
      have : 1 * (n + 1) ≤ n * (n + 1) := Nat.mul_le_mul_right _ hn
      omega
  | .join a b => by
    obtain ⟨h0, h1, h2⟩ := EB_dep hn (t := a)
    obtain ⟨g0, g1, g2⟩ := EB_dep hn (t := b)
    refine ⟨fun h => (by cases h), fun h => ?_, fun h => ?_⟩
    · have h : max a.dep b.dep + 1 ≤ 1 := h
      have := g0 (by omega)
      show (n + 1) * EB n b ≤ n + 1
      calc (n + 1) * EB n b ≤ (n + 1) * 1 := Nat.mul_le_mul_left _ this
        _ = n + 1 := Nat.mul_one _
    · have h : max a.dep b.dep + 1 ≤ 2 := h
      have := g1 (by omega)
      exact Nat.mul_le_mul_left _ this
theorem sq_le {n : Nat} (h : n ≤ 256) : (n + 1) * (n + 1) ≤ 66049 := Nat.le_trans (Nat.mul_le_mul (show n + 1 ≤ 257 by omega) (show n + 1 ≤ 257 by omega)) (by decide)
/-- trees of at most two nested operators -/
theorem EbOk.dep {n : Nat} (h1 : 1 ≤ n) (hn : n ≤ 256) : ∀ {t : Tr}, t.dep ≤ 2 → EbOk n t
  | .at kd ns, _ => trivial
  | .rep a, h => by
    have h : a.dep + 1 ≤ 2 := h
    have := (EB_dep h1 (t := a)).2.1 (by omega)
    exact ⟨EbOk.dep h1 hn (by omega), by omega⟩
  | .opt a, h => by
    have h : a.dep + 1 ≤ 2 := h
    have := (EB_dep h1 (t := a)).2.1 (by omega)
    exact ⟨EbOk.dep h1 hn (by omega), by omega⟩
  | .either a b, h => by
    have h : max a.dep b.dep + 1 ≤ 2 := h
    have := (EB_dep h1 (t := a)).2.1 (by omega)
    have := (EB_dep h1 (t := b)).2.1 (by omega)
    exact ⟨EbOk.dep h1 hn (by omega), EbOk.dep h1 hn (by omega), by omega⟩
  | .join a b, h => by
    have h : max a.dep b.dep + 1 ≤ 2 := h
    have h3 := (EB_dep h1 (t := a)).2.1 (by omega)
    have h4 := (EB_dep h1 (t := b)).2.1 (by omega)
    have := sq_le hn
    exact ⟨EbOk.dep h1 hn (by omega), EbOk.dep h1 hn (by omega), by omega, Nat.le_trans (Nat.mul_le_mul_left _ h4) (by omega)⟩
theorem EB_mono {n m : Nat} (h : n ≤ m) : ∀ t : Tr, EB n t ≤ EB m t
  | .at _ _ => Nat.le_refl _
  | .either a b => Nat.add_le_add (EB_mono h a) (EB_mono h b)
  | .opt a => Nat.succ_le_succ (EB_mono h a)
  | .join a b => Nat.mul_le_mul (Nat.succ_le_succ h) (EB_mono h b)
  | .rep a => Nat.succ_le_succ h
theorem EbOk.mono {n m : Nat} (h : n ≤ m) : ∀ {t : Tr}, EbOk m t → EbOk n t
  | .at _ _, _ => trivial
  | .either a b, ⟨h1, h2, h3⟩ => ⟨h1.mono h, h2.mono h, Nat.le_trans (Nat.add_le_add (EB_mono h a) (EB_mono h b)) h3⟩
  | .opt a, ⟨h1, h3⟩ => ⟨h1.mono h, Nat.le_trans (Nat.succ_le_succ (EB_mono h a)) h3⟩
  | .join a b, ⟨h1, h2, h3, h4⟩ => ⟨h1.mono h, h2.mono h, Nat.le_trans (EB_mono h a) h3, Nat.le_trans (Nat.mul_le_mul (Nat.succ_le_succ h) (EB_mono h b)) h4⟩
  | .rep a, ⟨h1, h3⟩ => ⟨h1.mono h, Nat.le_trans (EB_mono h a) h3⟩

/-- a second tree beside a first one, as the law draws it -/
structure SecT (t u : Tr) : Prop where
  nt : niceT t
  nu : niceT u
  dt : t.dep ≤ 3
  du : u.dep ≤ 3
  at1 : t.ats ≤ 8
  at2 : u.ats ≤ 8
  pr : PrOk t u 256
  e1 : EbOk 256 t
  e2 : EbOk 256 u
theorem SecT.swap {t u : Tr} (h : SecT t u) : SecT u t := ⟨h.nu, h.nt, h.du, h.dt, h.at2, h.at1, h.pr.swap, h.e2, h.e1⟩
section
variable {t : Tr} (nt : niceT t) (dt : t.dep ≤ 2)
include nt dt
end
theorem EvNR.lstR {K : PySem.W.Frag} {ro : Ro} {ka : Cells} {te : TE} {R : Nd → Cells → Prop} (h : EvNR K te ro ka R) (hR : ∀ n k, R n k → ∃ ds, n = .lst ds) : EvR K te ro ka (fun w k => ∃ ds, R (.lst ds) k ∧ w = .val (.lst ds)) := fun B F0 ta sg H Q e q => h B F0 ta sg H Q e fun n k a H1 r e1 => by
  obtain ⟨ds, rfl⟩ := hR n k r
  exact q _ _ _ _ ⟨ds, r, rfl⟩ e1.freeze_l
end DL

/-! FQ: {y: [] for y in ..} and {(y, ()): [] for y in ..} with nested keys, over lists, tuples and dicts; the library's DictComp_goesN with the hand layer's state at each turn (own work). -/
namespace DL
open PySem L2 PySem.W PyProof.Rows

/-- where the things come from -/
inductive DcOver (K : PySem.W.Frag) (H : Hp) (w : World) (l : Addr) (xs : List V) : Prop where
  | lst (h : SqL K H l xs)
  | tup (h : SqT K H l xs)
  | nest (rs : List (NestedKey × Addr × V)) (h : NAt K H w l rs) (e : xs = rs.map fun r => .ref r.2.1)
section
variable {X : Cx}
end
end DL

/-! FR: rules by data: {y: [] ..} with nested keys, list.pop, frozen dicts of lists with nested keys, dicts keyed by numbers (own work). -/
namespace DL
open PySem L2 PySem.W PyProof.Rows

section
variable {wd : World} {K : PySem.W.Frag} {B F F0 : Hp} {ro : Ro} {ka k1 k2 : Cells} {ta : List (V × W)} {sg : L2.St} {H : Hp} {te : TE} {w0 : W}
end

section
variable {wd : World} {K : PySem.W.Frag} {B F F0 : Hp} {ro : Ro} {ka k1 k2 k3 : Cells} {ta : List (V × W)} {sg : L2.St} {H : Hp} {te td ty tk tv tf : TE} {tt : TT} {tr : TA} {w x y : W} {a C : Addr} {b : Bool} {De : Ends} {u : TS} {E : XK} {P : W → Cells → Prop} {ds : List (Key × D)} {c : Key} {d : D} {n : Nd}
/-! ### an own object called -/
theorem Fn.fr {Pg : Program} {mg : Str → Option Value} {base : Heap} {k : Nat} {f : Addr} {ps : List Str} {Cc : Ct} (F : Fn Pg wd K mg base k f ps Cc) : FnR Pg wd K mg base (L2.CX Pg wd) k f (spC K Cc) := by
  obtain ⟨fd, F, hb⟩ := F
  exact (F.raw hb .nil).imp fun vs H Q E h => by rw [List.append_nil]; exact h
/-! ### frozen: a dict of nested keys with what stands behind -/
def FzN (K : PySem.W.Frag) (kt : Cells) : List (NestedKey × D) → List (NestedKey × D) → Prop
  | [], es => es = []
  | (k, d) :: ds, es => ∃ e r, es = (k, e) :: r ∧ FzR K kt d e ∧ FzN K kt ds r
theorem FzN.rp {kt : Cells} (nz : Nz F) (t : Thw K F H kt) : ∀ {ds es : List (NestedKey × D)} {xs : List (NestedKey × Addr × V)}, FzN K kt ds es → RpN K F ds xs → RpN K (thF F H kt) es xs
  | [], es, xs, z, h => by
    obtain rfl : es = [] := z
    exact h
  | (k, d) :: ds, es, xs, ⟨e, r, e1, z1, z2⟩, ⟨bb, x, ys, e2, h0, h1, h2⟩ => by
    subst e1
    exact ⟨bb, x, ys, e2, ⟨RkN.mono (thF_sub t.no).exz nz _ _ h0.1, h0.2⟩, z1.rp nz t h1, FzN.rp nz t z2 h2⟩
def FzK (K : PySem.W.Frag) (kt : Cells) : List (Key × D) → List (Key × D) → Prop
  | [], es => es = []
  | (k, d) :: ds, es => ∃ e r, es = (k, e) :: r ∧ FzR K kt d e ∧ FzK K kt ds r
theorem FzK.rp {kt : Cells} (nz : Nz F) (t : Thw K F H kt) : ∀ {ds es : List (Key × D)} {xs : List (Key × V)}, FzK K kt ds es → RpK K F ds xs → RpK K (thF F H kt) es xs
  | [], es, xs, z, h => by
    obtain rfl : es = [] := z
    exact h
  | (k, d) :: ds, es, xs, ⟨e, r, e1, z1, z2⟩, ⟨x, ys, e2, h1, h2⟩ => by
    subst e1
    exact ⟨x, ys, e2, z1.rp nz t h1, FzK.rp nz t z2 h2⟩
end
end DL

/-! FS: walks through all things, deepest first; lots of things that lead to one another, numbered; in plain Lean (own work). -/
namespace DL
section
variable {α : Type} [DecidableEq α]
/-- in n steps from x to y -/
inductive LdN (adj : α → List α) : Nat → α → α → Prop where
  | nil (x : α) : LdN adj 0 x x
  | cons {n : Nat} {x y z : α} (h : y ∈ adj x) (t : LdN adj n y z) : LdN adj (n + 1) x z
def Ld (adj : α → List α) (x y : α) : Prop := ∃ n, LdN adj n x y
variable {adj : α → List α}
theorem Ld.refl (x : α) : Ld adj x x := ⟨0, .nil x⟩
theorem Ld.step {x y : α} (h : y ∈ adj x) : Ld adj x y := ⟨1, .cons h (.nil y)⟩
theorem LdN.app {n m : Nat} {x y z : α} (h : LdN adj n x y) (t : LdN adj m y z) : ∃ k, LdN adj k x z := by
  induction h with
  | nil x => exact ⟨_, t⟩
  | cons h _ ih =>
    obtain ⟨k, hk⟩ := ih t
    exact ⟨_, .cons h hk⟩
theorem Ld.trans {x y z : α} (h : Ld adj x y) (t : Ld adj y z) : Ld adj x z := h.elim fun _ h => t.elim fun _ t => h.app t
theorem Ld.tail {x y z : α} (h : Ld adj x y) (t : z ∈ adj y) : Ld adj x z := h.trans (.step t)
theorem LdN.in_ {n : Nat} {x y : α} {V : List α} (h : LdN adj n x y) (cl : ∀ x ∈ V, ∀ y ∈ adj x, y ∈ V) (hx : x ∈ V) : y ∈ V := by
  induction h with
  | nil x => exact hx
  | cons h _ ih => exact ih (cl _ hx _ h)
/-- out of a set, there is a step -/
theorem LdN.cross {S : α → Prop} : ∀ {n : Nat} {x r : α}, LdN adj n x r → S x → ¬ S r → ∃ a b m, S a ∧ b ∈ adj a ∧ ¬ S b ∧ m < n ∧ LdN adj m b r ∧ Ld adj x b := by
  intro n
  induction n with
  | zero =>
    intro x r h hx hr
    cases h
    exact absurd hx hr
  | succ n ih =>
    intro x r h hx hr
    cases h with
    | @cons _ _ y _ hy t =>
      by_cases sy : S y
      · obtain ⟨a, b, m, h1, h2, h3, h4, h5, h6⟩ := ih t sy hr
        exact ⟨a, b, m, h1, h2, h3, by omega, h5, (Ld.step hy).trans h6⟩
      · exact ⟨x, y, n, hx, hy, sy, Nat.lt_succ_self _, t, .step hy⟩

/-! ### the order in which things are left -/
/-- all that is left by a moment leads to what is left by then, or to what leads to the one left then -/
def FinO (adj : α → List α) (order : List α) : Prop := ∀ (p : Nat) (x : α), order[p]? = some x → ∀ a ∈ order.take (p + 1), ∀ b ∈ adj a, b ∈ order.take (p + 1) ∨ Ld adj b x
/-- the last one left of all that are reached leads back -/
theorem FinO.back {order : List α} (F : FinO adj order) (nd : order.Nodup) (cl : ∀ x ∈ order, ∀ y ∈ adj x, y ∈ order) : ∀ (n : Nat) {x r : α}, x ∈ order → LdN adj n x r → (∀ z, Ld adj x z → order.idxOf z ≤ order.idxOf r) → Ld adj r x := by
  intro n
  induction n using Nat.strongRecOn with
  | _ n ih =>
    intro x r hx h mx
    have hr : r ∈ order := h.in_ cl hx
    have hp := List.idxOf_lt_length_of_mem hx
    have at_ : order[order.idxOf x]? = some x := by rw [List.getElem?_eq_getElem hp]; exact congrArg some (List.getElem_idxOf hp)
    have tk : ∀ {z : α}, z ∈ order.take (order.idxOf x + 1) ↔ z ∈ order ∧ order.idxOf z ≤ order.idxOf x := fun {z} => by
      constructor
      · intro hz
        have hz2 := List.mem_of_mem_take hz
        refine ⟨hz2, ?_⟩
        obtain ⟨i, hi⟩ := List.getElem?_of_mem hz
        rw [List.getElem?_take] at hi
        split at hi
        · rename_i lt
          have hl := (List.getElem?_eq_some_iff.mp hi).1
          have e := (List.getElem?_eq_some_iff.mp hi).2
          have : order.idxOf z = i := by
            have q := List.getElem_idxOf (List.idxOf_lt_length_of_mem hz2)
            exact (List.getElem_inj nd).mp (q.trans e.symm)
          omega
        · cases hi
      · rintro ⟨hz, hle⟩
        have hl := List.idxOf_lt_length_of_mem hz
        refine List.mem_of_getElem? (i := order.idxOf z) ?_
        rw [List.getElem?_take, if_pos (by omega), List.getElem?_eq_getElem hl]
        exact congrArg some (List.getElem_idxOf hl)
    by_cases hrt : r ∈ order.take (order.idxOf x + 1)
    · have h1 := (tk.mp hrt).2
      have h2 := mx x (Ld.refl x)
      have e : order.idxOf r = order.idxOf x := by omega
      have : r = x := by
        have q1 := List.getElem_idxOf (List.idxOf_lt_length_of_mem hr)
        have q2 := List.getElem_idxOf hp
        simp only [e] at q1
        exact q1.symm.trans q2
      rw [this]
      exact Ld.refl x
    · obtain ⟨a, b, m, h1, h2, h3, h4, h5, h6⟩ := h.cross (S := fun z => z ∈ order.take (order.idxOf x + 1)) (tk.mpr ⟨hx, Nat.le_refl _⟩) hrt
      have hb : b ∈ order := cl _ (List.mem_of_mem_take h1) _ h2
      rcases F _ x at_ a h1 b h2 with z | z
      · exact absurd z h3
      · exact (ih m h4 hb h5 fun z hz => mx z (h6.trans hz)).trans z
/-- on the way: what is left, what is known, what is open (the next place of each) -/
structure DfI (adj : α → List α) (V order known : List α) (stack : List (α × Nat)) : Prop where
  kn : ∀ x, x ∈ known ↔ x ∈ order ∨ x ∈ stack.map (·.1)
  nd : (order ++ stack.map (·.1)).Nodup
  kd : known.Nodup
  inV : ∀ x ∈ known, x ∈ V
  fin : ∀ a ∈ order, ∀ b ∈ adj a, b ∈ known
  F : FinO adj order
  ch : ∀ (pre post : List (α × Nat)) (s t : α × Nat), stack = pre ++ s :: t :: post → t.1 ∈ adj s.1
  pl : ∀ s ∈ stack, s.2 ≤ (adj s.1).length ∧ ∀ j b, j < s.2 → (adj s.1)[j]? = some b → b ∈ known
section
variable {V order known : List α} {stack : List (α × Nat)}
/-- a first one -/
theorem DfI.root (I : DfI adj V order known []) {r : α} (hr : r ∉ known) (hV : r ∈ V) : DfI adj V order (known ++ [r]) [(r, 0)] where
  kn := fun x => by
    rw [List.mem_append, I.kn x]
    simp
  nd := by
    have h := I.nd
    rw [List.map_nil, List.append_nil] at h
    rw [List.nodup_append]
    exact ⟨h, by simp, fun a ha b hb => by
      have hb : b = r := by simpa using hb
      rintro rfl
      exact hr (hb ▸ (I.kn a).mpr (.inl ha))⟩
  kd := by
    rw [List.nodup_append]
    exact ⟨I.kd, by simp, fun a ha b hb => by
      rw [List.mem_singleton] at hb
      rintro rfl
      exact hr (hb ▸ ha)⟩
  inV := fun x hx => (List.mem_append.mp hx).elim (I.inV x) fun h => by rw [List.mem_singleton.mp h]; exact hV
  fin := fun a ha b hb => List.mem_append_left _ (I.fin a ha b hb)
  F := I.F
  ch := fun pre post s t h => by
    have := congrArg List.length h
    rw [List.length_append] at this
    simp at this
    omega
  pl := fun s hs => by
    rw [List.mem_singleton.mp hs]
    exact ⟨Nat.zero_le _, fun j b h => absurd h (Nat.not_lt_zero _)⟩
theorem list_nil_or_snoc {β : Type} (xs : List β) : xs = [] ∨ ∃ ys y, xs = ys ++ [y] := by
  by_cases h : xs = []
  · exact .inl h
  · exact .inr ⟨xs.dropLast, xs.getLast h, (List.dropLast_concat_getLast h).symm⟩
theorem snoc_split {β : Type} {xs pre post : List β} {x s t : β} (h : xs ++ [x] = pre ++ s :: t :: post) : (∃ post', xs = pre ++ s :: t :: post') ∨ (xs = pre ++ [s] ∧ x = t) := by
  rcases list_nil_or_snoc post with rfl | ⟨post', y, rfl⟩
  · right
    have h2 : xs ++ [x] = (pre ++ [s]) ++ [t] := by rw [h, List.append_assoc]; rfl
    exact ⟨List.append_inj_left' h2 rfl, by have := List.append_inj_right' h2 rfl; exact List.cons.inj this |>.1⟩
  · left
    have h2 : xs ++ [x] = (pre ++ s :: t :: post') ++ [y] := by rw [h, List.append_assoc]; rfl
    exact ⟨post', List.append_inj_left' h2 rfl⟩
/-- the top's next one is known -/
theorem DfI.old {st : List (α × Nat)} {s : α} {i : Nat} {b : α} (I : DfI adj V order known (st ++ [(s, i)])) (hb : (adj s)[i]? = some b) (hk : b ∈ known) : DfI adj V order known (st ++ [(s, i + 1)]) where
  kn := fun x => by
    have := I.kn x
    rw [List.map_append] at this ⊢
    exact this
  nd := by
    have := I.nd
    rw [List.map_append] at this ⊢
    exact this
  kd := I.kd
  inV := I.inV
  fin := I.fin
  F := I.F
  ch := fun pre post u t h => by
    rcases snoc_split h with ⟨post', h'⟩ | ⟨h1, h2⟩
    · exact I.ch pre (post' ++ [(s, i)]) u t (by rw [h', List.append_assoc]; rfl)
    · have := I.ch pre [] u (s, i) (by rw [h1, List.append_assoc]; rfl)
      rw [← h2]
      exact this
  pl := fun u hu => by
    rcases List.mem_append.mp hu with hu | hu
    · exact I.pl u (List.mem_append_left _ hu)
    · rw [List.mem_singleton.mp hu]
      have h0 := I.pl (s, i) (List.mem_append_right _ (List.mem_singleton.mpr rfl))
      refine ⟨(List.getElem?_eq_some_iff.mp hb).1, fun j c hj hc => ?_⟩
      rcases Nat.lt_or_ge j i with g | g
      · exact h0.2 j c g hc
      · have : j = i := by
          have hj : j < i + 1 := hj
          omega
        subst this
        have hc : (adj s)[j]? = some c := hc
        rw [hb] at hc
        cases hc
        exact hk
/-- the top's next one is new -/
theorem DfI.new {st : List (α × Nat)} {s : α} {i : Nat} {b : α} (I : DfI adj V order known (st ++ [(s, i)])) (hb : (adj s)[i]? = some b) (hk : b ∉ known) (hV : b ∈ V) : DfI adj V order (known ++ [b]) (st ++ [(s, i + 1)] ++ [(b, 0)]) where
  kn := fun x => by
    have := I.kn x
    rw [List.mem_append, this]
    simp only [List.map_append, List.map_cons, List.map_nil, List.mem_append, List.mem_singleton]
    constructor
    · rintro ((h | h | h) | h)
      · exact .inl h
      · exact .inr (.inl (.inl h))
      · exact .inr (.inl (.inr h))
      · exact .inr (.inr h)
    · rintro (h | (h | h) | h)
      · exact .inl (.inl h)
      · exact .inl (.inr (.inl h))
      · exact .inl (.inr (.inr h))
      · exact .inr h
  nd := by
    have h := I.nd
    rw [List.map_append] at h
    rw [List.map_append, List.map_append, ← List.append_assoc, List.nodup_append]
    refine ⟨h, by simp, fun x hx y hy => ?_⟩
    have hy : y = b := by simpa using hy
    rintro rfl
    refine hk (hy ▸ (I.kn x).mpr ?_)
    rw [List.map_append]
    exact List.mem_append.mp hx
  kd := by
    rw [List.nodup_append]
    exact ⟨I.kd, by simp, fun a ha b' hb' => by
      rw [List.mem_singleton] at hb'
      rintro rfl
      exact hk (hb' ▸ ha)⟩
  inV := fun x hx => (List.mem_append.mp hx).elim (I.inV x) fun h => by rw [List.mem_singleton.mp h]; exact hV
  fin := fun a ha c hc => List.mem_append_left _ (I.fin a ha c hc)
  F := I.F
  ch := fun pre post u t h => by
    rcases snoc_split h with ⟨post', h'⟩ | ⟨h1, h2⟩
    · rcases snoc_split h' with ⟨post2, h2⟩ | ⟨h3, h4⟩
      · exact I.ch pre (post2 ++ [(s, i)]) u t (by rw [h2, List.append_assoc]; rfl)
      · have := I.ch pre [] u (s, i) (by rw [h3, List.append_assoc]; rfl)
        rw [← h4]
        exact this
    · have e : u = (s, i + 1) := by
        have := List.append_inj_right' h1 rfl
        exact (List.cons.inj this).1.symm
      rw [e, ← h2]
      exact List.mem_of_getElem? hb
  pl := fun u hu => by
    have up : ∀ {u : α × Nat}, (u.2 ≤ (adj u.1).length ∧ ∀ j c, j < u.2 → (adj u.1)[j]? = some c → c ∈ known) → u.2 ≤ (adj u.1).length ∧ ∀ j c, j < u.2 → (adj u.1)[j]? = some c → c ∈ known ++ [b] := fun h => ⟨h.1, fun j c hj hc => List.mem_append_left _ (h.2 j c hj hc)⟩
    rcases List.mem_append.mp hu with hu | hu
    · rcases List.mem_append.mp hu with hu | hu
      · exact up (I.pl u (List.mem_append_left _ hu))
      · rw [List.mem_singleton.mp hu]
        have h0 := I.pl (s, i) (List.mem_append_right _ (List.mem_singleton.mpr rfl))
        refine ⟨(List.getElem?_eq_some_iff.mp hb).1, fun j c hj hc => ?_⟩
        rcases Nat.lt_or_ge j i with g | g
        · exact List.mem_append_left _ (h0.2 j c g hc)
        · have : j = i := by
            have hj : j < i + 1 := hj
            omega
          subst this
          have hc : (adj s)[j]? = some c := hc
          rw [hb] at hc
          cases hc
          exact List.mem_append_right _ (List.mem_singleton.mpr rfl)
    · rw [List.mem_singleton.mp hu]
      exact ⟨Nat.zero_le _, fun j c h => absurd h (Nat.not_lt_zero _)⟩
/-- what is open leads to the top -/
theorem DfI.chain {st : List (α × Nat)} {s : α} {i : Nat} (I : DfI adj V order known (st ++ [(s, i)])) : ∀ u ∈ st ++ [(s, i)], Ld adj u.1 s := by
  have key : ∀ (k : Nat) (pre post : List (α × Nat)), post.length = k → st ++ [(s, i)] = pre ++ post → ∀ u ∈ post, Ld adj u.1 s := by
    intro k
    induction k with
    | zero =>
      intro pre post hl _ u hu
      rw [List.eq_nil_of_length_eq_zero hl] at hu
      cases hu
    | succ k ih =>
      intro pre post hl e u hu
      cases post with
      | nil => cases hl
      | cons v post =>
        have e2 : st ++ [(s, i)] = (pre ++ [v]) ++ post := by rw [e, List.append_assoc]; rfl
        have rest := ih (pre ++ [v]) post (by simpa using hl) e2
        rcases List.mem_cons.mp hu with rfl | hu
        · cases post with
          | nil =>
            rw [List.append_nil] at e2
            have := List.append_inj_right' e2 rfl
            rw [← (List.cons.inj this).1]
            exact Ld.refl s
          | cons t post => exact (Ld.step (I.ch pre post u t e)).trans (rest t List.mem_cons_self)
        · exact rest u hu
  exact key _ [] _ rfl rfl
/-- the top is left -/
theorem DfI.leave {st : List (α × Nat)} {s : α} {i : Nat} (I : DfI adj V order known (st ++ [(s, i)])) (hi : (adj s).length ≤ i) : DfI adj V (order ++ [s]) known st := by
  have h0 := I.pl (s, i) (List.mem_append_right _ (List.mem_singleton.mpr rfl))
  have sk : ∀ b ∈ adj s, b ∈ known := fun b hb => by
    obtain ⟨j, hj⟩ := List.getElem?_of_mem hb
    exact h0.2 j b (Nat.lt_of_lt_of_le (List.getElem?_eq_some_iff.mp hj).1 hi) hj
  have fin' : ∀ a ∈ order ++ [s], ∀ b ∈ adj a, b ∈ known := fun a ha b hb => by
    rcases List.mem_append.mp ha with ha | ha
    · exact I.fin a ha b hb
    · rw [List.mem_singleton.mp ha] at hb
      exact sk b hb
  have kn' : ∀ x, x ∈ known ↔ x ∈ order ++ [s] ∨ x ∈ st.map (·.1) := fun x => by
    rw [I.kn x, List.map_append, List.map_cons, List.map_nil, List.mem_append, List.mem_append]
    constructor
    · rintro (h | h | h)
      · exact .inl (.inl h)
      · exact .inr h
      · exact .inl (.inr h)
    · rintro ((h | h) | h)
      · exact .inl h
      · exact .inr (.inr h)
      · exact .inr (.inl h)
  refine ⟨kn', ?_, I.kd, I.inV, fin', fun p x hx a ha b hb => ?_, fun pre post u t h => ?_, fun u hu => I.pl u (List.mem_append_left _ hu)⟩
  · have h := I.nd
    rw [List.map_append, List.map_cons, List.map_nil] at h
    refine (List.Perm.nodup_iff ?_).mp h
    rw [List.append_assoc]
    exact List.Perm.append_left _ List.perm_append_comm
  · by_cases hp : p < order.length
    · rw [List.getElem?_append_left hp] at hx
      rw [List.take_append_of_le_length hp] at ha ⊢
      exact I.F p x hx a ha b hb
    · have hl := (List.getElem?_eq_some_iff.mp hx).1
      rw [List.length_append, List.length_singleton] at hl
      have e : p = order.length := by omega
      subst e
      rw [List.getElem?_append_right (Nat.le_refl _), Nat.sub_self] at hx
      cases hx
      have et : (order ++ [s]).take (order.length + 1) = order ++ [s] := List.take_of_length_le (by rw [List.length_append]; exact Nat.le_refl _)
      rw [et] at ha ⊢
      rcases (kn' b).mp (fin' a ha b hb) with h | h
      · exact .inl h
      · obtain ⟨u, hu, rfl⟩ := List.mem_map.mp h
        exact .inr (I.chain u (List.mem_append_left _ hu))
  · exact I.ch pre (post ++ [(s, i)]) u t (by rw [h, List.append_assoc]; rfl)
/-- what is still to be done, where nothing leads on more than D times -/
def DfM (adj : α → List α) (V known : List α) (D : Nat) (stack : List (α × Nat)) : Nat := (V.length - known.length) * (D + 2) + (stack.map fun s => (adj s.1).length + 1 - s.2).sum
theorem sum_snoc (xs : List Nat) (x : Nat) : (xs ++ [x]).sum = xs.sum + x := by simp
theorem DfM.old {st : List (α × Nat)} {s : α} {i D : Nat} (h : i < (adj s).length) : DfM adj V known D (st ++ [(s, i + 1)]) < DfM adj V known D (st ++ [(s, i)]) := by
  unfold DfM
  rw [List.map_append, List.map_append, List.map_cons, List.map_nil, List.map_cons, List.map_nil, sum_snoc, sum_snoc]
  show _ + (_ + ((adj s).length + 1 - (i + 1))) < _ + (_ + ((adj s).length + 1 - i))
  omega
theorem DfM.leave {st : List (α × Nat)} {s : α} {i D : Nat} (h : i ≤ (adj s).length) : DfM adj V known D st < DfM adj V known D (st ++ [(s, i)]) := by
  unfold DfM
  rw [List.map_append, List.map_cons, List.map_nil, sum_snoc]
  show _ < _ + (_ + ((adj s).length + 1 - i))
  omega
theorem DfM.new {st : List (α × Nat)} {s b : α} {i D : Nat} (I : DfI adj V order known (st ++ [(s, i)])) (hk : b ∉ known) (hV : b ∈ V) (hD : (adj b).length ≤ D) (h : i < (adj s).length) : DfM adj V (known ++ [b]) D (st ++ [(s, i + 1)] ++ [(b, 0)]) < DfM adj V known D (st ++ [(s, i)]) := by
  unfold DfM
  have hl : (known ++ [b]).length ≤ V.length := nd_sub (by
    rw [List.nodup_append]
    exact ⟨I.kd, by simp, fun a ha b' hb' => by
      rw [List.mem_singleton] at hb'
      rintro rfl
      exact hk (hb' ▸ ha)⟩) fun x hx => (List.mem_append.mp hx).elim (I.inV x) fun h => by rw [List.mem_singleton.mp h]; exact hV
  rw [List.length_append, List.length_singleton] at hl ⊢
  rw [List.map_append, List.map_append, List.map_append, List.map_cons, List.map_nil, List.map_cons, List.map_nil, List.map_cons, List.map_nil, sum_snoc, sum_snoc, sum_snoc]
  show _ + (_ + ((adj s).length + 1 - (i + 1)) + ((adj b).length + 1 - 0)) < _ + (_ + ((adj s).length + 1 - i))
  have e : V.length - known.length = (V.length - (known.length + 1)) + 1 := by omega
  rw [e, Nat.add_mul, Nat.one_mul]
  omega
end

/-! ### lots of things that lead to one another -/
/-- all things of V numbered: the same number, and they lead to one another; no step leads to a lesser number -/
structure LotO (adj : α → List α) (V : List α) (nm : List (α × Nat)) : Prop where
  nd : (nm.map (·.1)).Nodup
  all : ∀ x, x ∈ V ↔ x ∈ nm.map (·.1)
  same : ∀ x y i, (x, i) ∈ nm → (y, i) ∈ nm → Ld adj x y
  up : ∀ x y i j, y ∈ adj x → (x, i) ∈ nm → (y, j) ∈ nm → i ≤ j
/-- between two first ones: n numbers are taken -/
structure LotI (adj : α → List α) (V done : List α) (n : Nat) (nm : List (α × Nat)) : Prop where
  nd : (nm.map (·.1)).Nodup
  inV : ∀ x ∈ nm.map (·.1), x ∈ V
  dn : ∀ x ∈ done, x ∈ nm.map (·.1)
  lt : ∀ p ∈ nm, p.2 < n
  pre : ∀ x ∈ V, ∀ y ∈ adj x, y ∈ nm.map (·.1) → x ∈ nm.map (·.1)
  same : ∀ x y i, (x, i) ∈ nm → (y, i) ∈ nm → Ld adj x y
  up : ∀ x y i j, y ∈ adj x → (x, i) ∈ nm → (y, j) ∈ nm → i ≤ j
/-- while a lot is gathered from r on: mm those of the lot, q those whose sources are still to be seen, S the sources seen of the one at hand -/
structure LotG (adj : α → List α) (V : List α) (r : α) (nm : List (α × Nat)) (mm q : List α) (c : Option α) (S : List α) : Prop where
  nd : (nm.map (·.1) ++ mm).Nodup
  inV : ∀ x ∈ mm, x ∈ V
  rm : r ∈ mm
  to : ∀ x ∈ mm, Ld adj x r
  qm : ∀ x ∈ q, x ∈ mm
  cm : ∀ x, c = some x → x ∈ mm
  pre : ∀ y ∈ mm, y ∉ q → c ≠ some y → ∀ x ∈ V, y ∈ adj x → x ∈ nm.map (·.1) ++ mm
  cS : ∀ y x, c = some y → x ∈ S → x ∈ nm.map (·.1) ++ mm
section
variable {V done mm q : List α} {nm : List (α × Nat)} {n : Nat} {r y : α} {S : List α}
theorem LotI.first (I : LotI adj V done n nm) (hr : r ∉ nm.map (·.1)) (hV : r ∈ V) : LotG adj V r nm [r] [r] none [] where
  nd := by
    rw [List.nodup_append]
    exact ⟨I.nd, by simp, fun a ha b hb => by
      rw [List.mem_singleton] at hb
      rintro rfl
      exact hr (hb ▸ ha)⟩
  inV := fun x hx => by rw [List.mem_singleton.mp hx]; exact hV
  rm := List.mem_singleton.mpr rfl
  to := fun x hx => by rw [List.mem_singleton.mp hx]; exact Ld.refl r
  qm := fun x hx => hx
  cm := fun x h => nomatch h
  pre := fun y hy hq => absurd hy hq
  cS := fun y x h => nomatch h
/-- the last of the queue is taken up -/
theorem LotG.take (G : LotG adj V r nm mm (q ++ [y]) none []) : LotG adj V r nm mm q (some y) [] where
  nd := G.nd
  inV := G.inV
  rm := G.rm
  to := G.to
  qm := fun x hx => G.qm x (List.mem_append_left _ hx)
  cm := fun x h => by
    cases h
    exact G.qm y (List.mem_append_right _ (List.mem_singleton.mpr rfl))
  pre := fun z hz hq hc => G.pre z hz (fun h => by
    rcases List.mem_append.mp h with h | h
    · exact hq h
    · exact hc (by rw [List.mem_singleton.mp h])) (fun h => nomatch h)
  cS := fun z x _ h => nomatch h
/-- a source that has a number -/
theorem LotG.old {x : α} (G : LotG adj V r nm mm q (some y) S) (hx : x ∈ nm.map (·.1) ++ mm) : LotG adj V r nm mm q (some y) (S ++ [x]) := { G with
  cS := fun z u h hu => by
    rcases List.mem_append.mp hu with hu | hu
    · exact G.cS z u h hu
    · rw [List.mem_singleton.mp hu]
      exact hx }
/-- a source without one -/
theorem LotG.new {x : α} (G : LotG adj V r nm mm q (some y) S) (hx : x ∉ nm.map (·.1) ++ mm) (hV : x ∈ V) (hy : y ∈ adj x) : LotG adj V r nm (mm ++ [x]) (q ++ [x]) (some y) (S ++ [x]) where
  nd := by
    rw [← List.append_assoc, List.nodup_append]
    exact ⟨G.nd, by simp, fun a ha b hb => by
      rw [List.mem_singleton] at hb
      rintro rfl
      exact hx (hb ▸ ha)⟩
  inV := fun z hz => (List.mem_append.mp hz).elim (G.inV z) fun h => by rw [List.mem_singleton.mp h]; exact hV
  rm := List.mem_append_left _ G.rm
  to := fun z hz => (List.mem_append.mp hz).elim (G.to z) fun h => by
    rw [List.mem_singleton.mp h]
    exact (Ld.step hy).trans (G.to y (G.cm y rfl))
  qm := fun z hz => (List.mem_append.mp hz).elim (fun h => List.mem_append_left _ (G.qm z h)) fun h => List.mem_append_right _ h
  cm := fun z h => List.mem_append_left _ (G.cm z h)
  pre := fun z hz hq hc u hu he => by
    rcases List.mem_append.mp hz with hz | hz
    · have := G.pre z hz (fun h => hq (List.mem_append_left _ h)) hc u hu he
      rw [← List.append_assoc]
      exact List.mem_append_left _ this
    · exact absurd (List.mem_append_right _ hz) hq
  cS := fun z u h hu => by
    rw [← List.append_assoc]
    rcases List.mem_append.mp hu with hu | hu
    · exact List.mem_append_left _ (G.cS z u h hu)
    · exact List.mem_append_right _ hu
/-- the lot is whole -/
theorem LotG.whole (G : LotG adj V r nm mm [] none []) (I : LotI adj V done n nm) {order : List α} (F : FinO adj order) (nd : order.Nodup) (ov : ∀ x, x ∈ order ↔ x ∈ V) (cl : ∀ x ∈ V, ∀ y ∈ adj x, y ∈ V) (hr : r ∉ nm.map (·.1)) (hd : ∀ x ∈ V, order.idxOf r < order.idxOf x → x ∈ done) :
    LotI adj V (done ++ [r]) (n + 1) (nm ++ mm.map fun x => (x, n)) := by
  have keys : (nm ++ mm.map fun x => (x, n)).map (·.1) = nm.map (·.1) ++ mm := by
    rw [List.map_append, List.map_map]
    congr 1
    exact List.map_id'' (fun _ => rfl) mm
  have dis : ∀ x ∈ mm, x ∉ nm.map (·.1) := fun x hx h => by
    have := (List.nodup_append.mp G.nd).2.2 x h x hx
    exact this rfl
  have preAll : ∀ x ∈ V, ∀ y ∈ adj x, y ∈ nm.map (·.1) ++ mm → x ∈ nm.map (·.1) ++ mm := fun x hx y hy h => by
    rcases List.mem_append.mp h with h | h
    · exact List.mem_append_left _ (I.pre x hx y hy h)
    · exact G.pre y h (fun z => nomatch z) (fun z => nomatch z) x hx hy
  have preN : ∀ (k : Nat) (x z : α), LdN adj k x z → x ∈ V → z ∈ nm.map (·.1) → x ∈ nm.map (·.1) := fun k x z h => by
    induction h with
    | nil x => exact fun _ h => h
    | cons h _ ih => exact fun hx hz => I.pre _ hx _ h (ih (cl _ hx _ h) hz)
  -- r leads back to all of its lot
  have back : ∀ x ∈ mm, Ld adj r x := fun x hx => by
    obtain ⟨k, hk⟩ := G.to x hx
    refine F.back nd (fun a ha b hb => (ov b).mpr (cl a ((ov a).mp ha) b hb)) k ((ov x).mpr (G.inV x hx)) hk fun z ⟨j, hz⟩ => Nat.le_of_not_lt fun lt => ?_
    have zV := hz.in_ cl (G.inV x hx)
    exact dis x hx (preN j x z hz (G.inV x hx) (I.dn z (hd z zV lt)))
  have mem : ∀ {x : α} {i : Nat}, (x, i) ∈ nm ++ mm.map (fun x => (x, n)) ↔ (x, i) ∈ nm ∨ (x ∈ mm ∧ i = n) := fun {x i} => by
    rw [List.mem_append, List.mem_map]
    constructor
    · rintro (h | ⟨y, hy, e⟩)
      · exact .inl h
      · cases e
        exact .inr ⟨hy, rfl⟩
    · rintro (h | ⟨hx, rfl⟩)
      · exact .inl h
      · exact .inr ⟨x, hx, rfl⟩
  refine ⟨by rw [keys]; exact G.nd, fun x hx => ?_, fun x hx => ?_, fun p hp => ?_, by rw [keys]; exact preAll, fun x y i hx hy => ?_, fun x y i j he hx hy => ?_⟩
  · rw [keys] at hx
    exact (List.mem_append.mp hx).elim (I.inV x) (G.inV x)
  · rw [keys]
    rcases List.mem_append.mp hx with hx | hx
    · exact List.mem_append_left _ (I.dn x hx)
    · rw [List.mem_singleton.mp hx]
      exact List.mem_append_right _ G.rm
  · rcases mem.mp hp with h | ⟨_, h⟩
    · exact Nat.lt_succ_of_lt (I.lt p h)
    · rw [h]
      exact Nat.lt_succ_self _
  · rcases mem.mp hx with hx | ⟨hx, e⟩ <;> rcases mem.mp hy with hy | ⟨hy, e2⟩
    · exact I.same x y i hx hy
    · have := I.lt _ hx
      simp only at this
      omega
    · have := I.lt _ hy
      simp only at this
      omega
    · exact (G.to x hx).trans (back y hy)
  · rcases mem.mp hx with hx | ⟨hx, e⟩ <;> rcases mem.mp hy with hy | ⟨hy, e2⟩
    · exact I.up x y i j he hx hy
    · have := I.lt _ hx
      simp only at this
      omega
    · exact absurd (I.pre x (G.inV x hx) y he (List.mem_map.mpr ⟨_, hy, rfl⟩)) (dis x hx)
    · omega
/-- one that has a number already -/
theorem LotI.skip (I : LotI adj V done n nm) (hr : r ∈ nm.map (·.1)) : LotI adj V (done ++ [r]) n nm := { I with
  dn := fun x hx => (List.mem_append.mp hx).elim (I.dn x) fun h => by rw [List.mem_singleton.mp h]; exact hr }
/-- two that lead to one another have the same number -/
theorem LotO.eq (O : LotO adj V nm) (cl : ∀ x ∈ V, ∀ y ∈ adj x, y ∈ V) {x y : α} {i j : Nat} (hx : (x, i) ∈ nm) (hy : (y, j) ∈ nm) (h1 : Ld adj x y) (h2 : Ld adj y x) : i = j := by
  have mono : ∀ (k : Nat) (x y : α), LdN adj k x y → ∀ i j, (x, i) ∈ nm → (y, j) ∈ nm → i ≤ j := fun k x y h => by
    induction h with
    | nil x =>
      intro i j hi hj
      have : i = j := by
        have h1 := O.nd
        obtain ⟨a, ha⟩ := List.getElem?_of_mem hi
        obtain ⟨b, hb⟩ := List.getElem?_of_mem hj
        have e1 : (nm.map (·.1))[a]? = some x := by rw [List.getElem?_map, ha]; rfl
        have e2 : (nm.map (·.1))[b]? = some x := by rw [List.getElem?_map, hb]; rfl
        have := (List.getElem?_inj (List.getElem?_eq_some_iff.mp e1).1 h1).mp (e1.trans e2.symm)
        subst this
        rw [ha] at hb
        exact (Prod.mk.inj (Option.some.inj hb)).2
      omega
    | @cons n x y z h t ih =>
      intro i j hi hj
      have yV : y ∈ V := cl x ((O.all x).mpr (List.mem_map.mpr ⟨_, hi, rfl⟩)) y h
      obtain ⟨p, hp, e⟩ := List.mem_map.mp ((O.all y).mp yV)
      have hp' : (y, p.2) ∈ nm := by rw [← e]; exact hp
      have := O.up x y i p.2 h hi hp'
      have := ih p.2 j hp' hj
      omega
  obtain ⟨a, h1⟩ := h1
  obtain ⟨b, h2⟩ := h2
  have := mono a x y h1 i j hx hy
  have := mono b y x h2 j i hy hx
  omega
end
end
end DL

/-! FT: standings (a post, open atoms), moves between them, as they are gathered (own work). -/
namespace DL
open PySem L2 PySem.W PyProof.Rows

abbrev L3 := Str × Str × Str
abbrev Sd := Str × List Nat
/-- the moves of a standing -/
def sdSc (es : List L3) (m : Mc) (s : Sd) : List (Str × Sd) := (es.filter fun r => decide (r.2.1 = s.1) && !doneM m (begM m s.2 r.1)).map fun r => (r.1, (r.2.2, begM m s.2 r.1))
abbrev sdA (es : List L3) (m : Mc) (s : Sd) : List Sd := (sdSc es m s).map (·.2)
abbrev Mv := List (Sd × List (Str × Sd))
/-! ### gathering moves -/
structure MIn (es : List L3) (m : Mc) (ps : List Str) (n : Nat) (E : List (Str × Sd)) (qs : List Sd) (cs : List (List (Str × Sd))) : Prop where
  nd : qs.Nodup
  ini : ∀ p ∈ ps, (p, []) ∈ qs
  ln : cs.length = qs.length
  dn : ∀ (i : Nat) c, i < n → qs[i]? = some c → cs[i]? = some (sdSc es m c)
  at_ : ∀ c, qs[n]? = some c → cs[n]? = some E
  af : ∀ i, n < i → i < qs.length → cs[i]? = some []
  cl : ∀ l ∈ cs, ∀ e ∈ l, e.2 ∈ qs
  rc : ∀ s ∈ qs, ∃ p ∈ ps, Ld (sdA es m) (p, []) s
structure MvOk (es : List L3) (m : Mc) (ps : List Str) (mv : Mv) : Prop where
  nd : (mv.map (·.1)).Nodup
  ini : ∀ p ∈ ps, (p, []) ∈ mv.map (·.1)
  sc : ∀ x ∈ mv, x.2 = sdSc es m x.1
  cl : ∀ s ∈ mv.map (·.1), ∀ t ∈ sdA es m s, t ∈ mv.map (·.1)
  rc : ∀ s ∈ mv.map (·.1), ∃ p ∈ ps, Ld (sdA es m) (p, []) s
section
variable {es : List L3} {m : Mc} {ps : List Str} {n : Nat} {E : List (Str × Sd)} {qs : List Sd} {cs : List (List (Str × Sd))}
theorem MIn.old (I : MIn es m ps n E qs cs) {c : Sd} (hc : qs[n]? = some c) {e : Str × Sd} (h : e.2 ∈ qs) : MIn es m ps n (E ++ [e]) qs (cs.set n (E ++ [e])) where
  nd := I.nd
  ini := I.ini
  ln := by rw [List.length_set]; exact I.ln
  dn := fun i d hi hd => by
    rw [List.getElem?_set_ne (by omega)]
    exact I.dn i d hi hd
  at_ := fun d hd => by
    rw [List.getElem?_set_self (by rw [I.ln]; exact (List.getElem?_eq_some_iff.mp hc).1)]
  af := fun i hi hl => by
    rw [List.getElem?_set_ne (by omega)]
    exact I.af i hi hl
  cl := fun l hl f hf => by
    rcases List.mem_or_eq_of_mem_set hl with hl | rfl
    · exact I.cl l hl f hf
    · rcases List.mem_append.mp hf with hf | hf
      · exact I.cl E (List.mem_of_getElem? (I.at_ c hc)) f hf
      · rw [List.mem_singleton.mp hf]
        exact h
  rc := I.rc
theorem MIn.new (I : MIn es m ps n E qs cs) {c : Sd} (hc : qs[n]? = some c) {e : Str × Sd} (he : e.2 ∈ sdA es m c) (h : e.2 ∉ qs) : MIn es m ps n (E ++ [e]) (qs ++ [e.2]) (cs.set n (E ++ [e]) ++ [[]]) where
  nd := by
    rw [List.nodup_append]
    exact ⟨I.nd, by simp, fun a ha b hb => by
      rw [List.mem_singleton] at hb
      rintro rfl
      exact h (hb ▸ ha)⟩
  ini := fun p hp => List.mem_append_left _ (I.ini p hp)
  ln := by rw [List.length_append, List.length_set, List.length_append, I.ln]; rfl
  dn := fun i d hi hd => by
    have hl := (List.getElem?_eq_some_iff.mp hc).1
    rw [List.getElem?_append_left (by omega)] at hd
    rw [List.getElem?_append_left (by rw [List.length_set, I.ln]; omega), List.getElem?_set_ne (by omega)]
    exact I.dn i d hi hd
  at_ := fun d _ => by
    have hl := (List.getElem?_eq_some_iff.mp hc).1
    rw [List.getElem?_append_left (by rw [List.length_set, I.ln]; omega), List.getElem?_set_self (by rw [I.ln]; exact hl)]
  af := fun i hi hl => by
    rw [List.length_append, List.length_singleton] at hl
    by_cases g : i < qs.length
    · rw [List.getElem?_append_left (by rw [List.length_set, I.ln]; omega), List.getElem?_set_ne (by omega)]
      exact I.af i hi g
    · have : i = qs.length := by omega
      subst this
      rw [List.getElem?_append_right (by rw [List.length_set, I.ln]; exact Nat.le_refl _), List.length_set, I.ln, Nat.sub_self]
      rfl
  cl := fun l hl f hf => by
    rcases List.mem_append.mp hl with hl | hl
    · rcases List.mem_or_eq_of_mem_set hl with hl | rfl
      · exact List.mem_append_left _ (I.cl l hl f hf)
      · rcases List.mem_append.mp hf with hf | hf
        · exact List.mem_append_left _ (I.cl E (List.mem_of_getElem? (I.at_ c hc)) f hf)
        · rw [List.mem_singleton.mp hf]
          exact List.mem_append_right _ (List.mem_singleton.mpr rfl)
    · rw [List.mem_singleton.mp hl] at hf
      cases hf
  rc := fun s hs => by
    rcases List.mem_append.mp hs with hs | hs
    · exact I.rc s hs
    · rw [List.mem_singleton.mp hs]
      obtain ⟨p, hp, h⟩ := I.rc c (List.mem_of_getElem? hc)
      exact ⟨p, hp, h.tail he⟩
theorem MIn.next (I : MIn es m ps n E qs cs) (hE : ∀ c, qs[n]? = some c → E = sdSc es m c) : MIn es m ps (n + 1) [] qs cs where
  nd := I.nd
  ini := I.ini
  ln := I.ln
  dn := fun i d hi hd => by
    rcases Nat.lt_or_ge i n with g | g
    · exact I.dn i d g hd
    · have : i = n := by omega
      subst this
      rw [I.at_ d hd, hE d hd]
  at_ := fun d hd => I.af (n + 1) (Nat.lt_succ_self _) (List.getElem?_eq_some_iff.mp hd).1
  af := fun i hi hl => I.af i (by omega) hl
  cl := I.cl
  rc := I.rc
theorem zip_keys {α β : Type} : ∀ {xs : List α} {ys : List β}, ys.length = xs.length → (xs.zip ys).map (·.1) = xs
  | [], [], _ => rfl
  | x :: xs, y :: ys, h => by
    rw [List.zip_cons_cons, List.map_cons, zip_keys (by simpa using h)]
theorem MIn.whole (I : MIn es m ps n E qs cs) (h : qs.length ≤ n) : MvOk es m ps (qs.zip cs) := by
  have k := zip_keys I.ln
  have sc : ∀ x ∈ qs.zip cs, x.2 = sdSc es m x.1 := fun x hx => by
    obtain ⟨i, hi⟩ := List.getElem?_of_mem hx
    obtain ⟨h1, h2⟩ := List.getElem?_zip_eq_some.mp hi
    have := I.dn i x.1 (by have := (List.getElem?_eq_some_iff.mp h1).1; omega) h1
    rw [h2] at this
    exact Option.some.inj this
  refine ⟨by rw [k]; exact I.nd, fun p hp => by rw [k]; exact I.ini p hp, sc, fun s hs t ht => ?_, fun s hs => I.rc s (by rwa [k] at hs)⟩
  rw [k]
  obtain ⟨x, hx, rfl⟩ := List.mem_map.mp hs
  obtain ⟨e, he, rfl⟩ := List.mem_map.mp ht
  rw [← sc x hx] at he
  exact I.cl x.2 (List.of_mem_zip hx).2 e he
/-- standings met out of a row: no more than it has -/
theorem MIn.few (I : MIn es m ps n E qs cs) {N : List Sd} (h0 : ∀ p ∈ ps, (p, []) ∈ N) (hN : ∀ x ∈ N, ∀ y ∈ sdA es m x, y ∈ N) : qs.length ≤ N.length := nd_sub I.nd fun x hx => by
  obtain ⟨p, hp, k, hk⟩ := I.rc x hx
  exact hk.in_ hN (h0 p hp)
end
end DL

/-! FU: rows by standings and their lists, as data and as cells; what leads to each standing (own work). -/
namespace DL
open PySem L2 PySem.W PyProof.Rows

/-- where a standing leads -/
def mvA (mv : Mv) (s : Sd) : List Sd := match mv.find? fun x => decide (x.1 = s) with
  | some x => x.2.map (·.2)
  | none => []
theorem mvA_at {mv : Mv} (hn : (mv.map (·.1)).Nodup) {x : Sd × List (Str × Sd)} (h : x ∈ mv) : mvA mv x.1 = x.2.map (·.2) := by
  unfold mvA
  have : mv.find? (fun y => decide (y.1 = x.1)) = some x := by
    induction mv with
    | nil => cases h
    | cons y mv ih =>
      have hn2 := List.nodup_cons.mp (by rw [List.map_cons] at hn; exact hn)
      rw [List.find?_cons]
      rcases List.mem_cons.mp h with rfl | h
      · rw [decide_eq_true rfl]
      · have : ¬ y.1 = x.1 := fun e => hn2.1 (e ▸ List.mem_map.mpr ⟨x, h, rfl⟩)
        rw [decide_eq_false this]
        exact ih hn2.2 h
  rw [this]
theorem mvA_mem {mv : Mv} {s t : Sd} (h : t ∈ mvA mv s) : ∃ x ∈ mv, x.1 = s ∧ t ∈ x.2.map (·.2) := by
  unfold mvA at h
  cases e : mv.find? (fun x => decide (x.1 = s)) with
  | none => rw [e] at h; cases h
  | some x =>
    rw [e] at h
    exact ⟨x, List.mem_of_find?_eq_some e, by simpa using List.find?_some e, h⟩
/-- all moves without their lanes -/
def edR (mv : Mv) : List (Sd × Sd) := mv.flatMap fun x => x.2.map fun e => (x.1, e.2)
/-- moves that a walk may go through: told once each, none leads out, not too many -/
structure MvW (mv : Mv) : Prop where
  nd : (mv.map (·.1)).Nodup
  cl : ∀ x ∈ mv, ∀ e ∈ x.2, e.2 ∈ mv.map (·.1)
  few : (edR mv).length ≤ 90000
  mn : mv.length ≤ 40000
  rw : ∀ x ∈ mv, x.2.length ≤ 1000
theorem MvW.to {mv : Mv} (W : MvW mv) {s t : Sd} (h : t ∈ mvA mv s) : t ∈ mv.map (·.1) := by
  obtain ⟨x, hx, _, q⟩ := mvA_mem h
  obtain ⟨e, he, rfl⟩ := List.mem_map.mp q
  exact W.cl x hx e he
theorem DfI.few {adj : Sd → List Sd} {V order known : List Sd} {stack : List (Sd × Nat)} (I : DfI adj V order known stack) : order.length + stack.length ≤ V.length ∧ known.length ≤ V.length := by
  have h1 := nd_sub I.nd (ys := V) fun x hx => I.inV x ((I.kn x).mpr (List.mem_append.mp hx))
  rw [List.length_append, List.length_map] at h1
  exact ⟨h1, nd_sub I.kd fun x hx => I.inV x hx⟩
section
variable {wd : World} {K : PySem.W.Frag} {ro : Ro} {ka : Cells} {te : TE} {P R : W → Cells → Prop}
end
end DL

/-! FV: lanes on moves between standings of one number, dicts of dicts (own work). -/
namespace DL
open PySem L2 PySem.W PyProof.Rows

def edL (mv : Mv) : List (Sd × Str × Sd) := mv.flatMap fun x => x.2.map fun e => (x.1, e.1, e.2)
theorem edL_mem {mv : Mv} {s t : Sd} {l : Str} : (s, l, t) ∈ edL mv ↔ ∃ x ∈ mv, x.1 = s ∧ (l, t) ∈ x.2 := by
  unfold edL
  rw [List.mem_flatMap]
  constructor
  · rintro ⟨x, hx, h⟩
    obtain ⟨e, he, q⟩ := List.mem_map.mp h
    cases q
    exact ⟨x, hx, rfl, he⟩
  · rintro ⟨x, hx, rfl, h⟩
    exact ⟨x, hx, List.mem_map.mpr ⟨_, h, rfl⟩⟩
/-- the lanes on moves within a number -/
def ilL (nm : List (Sd × Nat)) (E : List (Sd × Str × Sd)) (n : Nat) : List Str := (E.filter fun e => decide ((e.1, n) ∈ nm) && decide ((e.2.2, n) ∈ nm)).map (·.2.1)
theorem ilL_in {nm : List (Sd × Nat)} {E : List (Sd × Str × Sd)} {n : Nat} {e : Sd × Str × Sd} (h1 : (e.1, n) ∈ nm) (h2 : (e.2.2, n) ∈ nm) : ilL nm (E ++ [e]) n = ilL nm E n ++ [e.2.1] := by
  unfold ilL
  rw [List.filter_append, List.map_append, List.filter_cons, decide_eq_true h1, decide_eq_true h2]
  rfl
theorem ilL_out {nm : List (Sd × Nat)} {E : List (Sd × Str × Sd)} {n : Nat} {e : Sd × Str × Sd} (h : ¬ ((e.1, n) ∈ nm ∧ (e.2.2, n) ∈ nm)) : ilL nm (E ++ [e]) n = ilL nm E n := by
  unfold ilL
  rw [List.filter_append, List.map_append, List.filter_cons]
  have : (decide ((e.1, n) ∈ nm) && decide ((e.2.2, n) ∈ nm)) = false := by
    rw [← Bool.not_eq_true, Bool.and_eq_true, decide_eq_true_eq, decide_eq_true_eq]
    exact h
  rw [this]
  exact List.append_nil _
theorem ilL_mem {nm : List (Sd × Nat)} {E : List (Sd × Str × Sd)} {n : Nat} {l : Str} : l ∈ ilL nm E n ↔ ∃ s t, (s, l, t) ∈ E ∧ (s, n) ∈ nm ∧ (t, n) ∈ nm := by
  unfold ilL
  rw [List.mem_map]
  constructor
  · rintro ⟨⟨s, l', t⟩, h, rfl⟩
    obtain ⟨h1, h2⟩ := List.mem_filter.mp h
    rw [Bool.and_eq_true, decide_eq_true_eq, decide_eq_true_eq] at h2
    exact ⟨s, t, h1, h2⟩
  · rintro ⟨s, t, h, h1, h2⟩
    exact ⟨(s, l, t), List.mem_filter.mpr ⟨h, by rw [decide_eq_true h1, decide_eq_true h2]; rfl⟩, rfl⟩
/-- two numbers of one standing are the same -/
theorem num_one {nm : List (Sd × Nat)} (hn : (nm.map (·.1)).Nodup) {s : Sd} {i j : Nat} (h1 : (s, i) ∈ nm) (h2 : (s, j) ∈ nm) : i = j := by
  induction nm with
  | nil => cases h1
  | cons x nm ih =>
    have hn2 := List.nodup_cons.mp (by rw [List.map_cons] at hn; exact hn)
    rcases List.mem_cons.mp h1 with e1 | h1 <;> rcases List.mem_cons.mp h2 with e2 | h2
    · rw [← e1] at e2
      exact (Prod.mk.inj e2).2.symm
    · exact absurd (List.mem_map.mpr ⟨_, h2, by rw [← e1]⟩) hn2.1
    · exact absurd (List.mem_map.mpr ⟨_, h1, by rw [← e2]⟩) hn2.1
    · exact ih hn2.2 h1 h2
/-! ### dicts behind numbers -/
/-- each number: its dict's place among those made -/
def ilR (as : List Addr) (rows : List (Nat × Nat)) : List (Key × D) := rows.map fun r => (Sum.inl (r.1 : Int), D.adr (as[r.2]?.getD 0))
structure IlR (nm : List (Sd × Nat)) (len : Nat) (rows : List (Nat × Nat)) : Prop where
  n1 : (rows.map (·.1)).Nodup
  n2 : (rows.map (·.2)).Nodup
  lt : ∀ r ∈ rows, r.2 < len
  mem : ∀ n, n ∈ rows.map (·.1) ↔ n ∈ nm.map (·.2)
theorem int_inl {i j : Nat} (h : (Sum.inl (i : Int) : Key) = Sum.inl (j : Int)) : i = j := by
  injection h with h
  omega
theorem ilR_has {as : List Addr} {rows : List (Nat × Nat)} {n : Nat} : hasT (ilR as rows) (Sum.inl (n : Int)) = decide (n ∈ rows.map (·.1)) := by
  rw [Bool.eq_iff_iff, decide_eq_true_eq]
  unfold hasT ilR
  rw [List.any_map, List.any_eq_true]
  constructor
  · rintro ⟨r, hr, h⟩
    exact List.mem_map.mpr ⟨r, hr, int_inl (of_decide_eq_true h)⟩
  · intro h
    obtain ⟨r, hr, rfl⟩ := List.mem_map.mp h
    exact ⟨r, hr, decide_eq_true rfl⟩
theorem ilR_more {as : List Addr} {rows : List (Nat × Nat)} {a : Addr} (h : ∀ r ∈ rows, r.2 < as.length) : ilR (as ++ [a]) rows = ilR as rows := by
  unfold ilR
  refine List.map_congr_left fun r hr => ?_
  rw [List.getElem?_append_left (h r hr)]
theorem IlR.put {nm : List (Sd × Nat)} {i : Nat} {rows : List (Nat × Nat)} (I : IlR (nm.take i) i rows) {x : Sd × Nat} (h : nm[i]? = some x) {as : List Addr} (hl : as.length = i) (a : Addr) : ∃ rows', putT (ilR as rows) (Sum.inl (x.2 : Int)) (.adr a) = ilR (as ++ [a]) rows' ∧ IlR (nm.take (i + 1)) (i + 1) rows' := by
  have hlt : ∀ r ∈ rows, r.2 < as.length := fun r hr => by rw [hl]; exact I.lt r hr
  have hmem : ∀ n, n ∈ (nm.take (i + 1)).map (·.2) ↔ n ∈ (nm.take i).map (·.2) ∨ n = x.2 := fun n => by
    rw [take_succ_some h, List.map_append, List.mem_append]
    simp
  by_cases hx : x.2 ∈ rows.map (·.1)
  · refine ⟨rows.map fun r => if r.1 = x.2 then (r.1, i) else r, ?_, ?_, ?_, ?_, fun n => ?_⟩
    · unfold putT
      rw [ilR_has, if_pos (decide_eq_true hx)]
      unfold ilR
      rw [List.map_map, List.map_map]
      refine List.map_congr_left fun r hr => ?_
      simp only [Function.comp, newAt]
      by_cases e : r.1 = x.2
      · rw [if_pos (by rw [e]), if_pos e]
        simp only
        rw [List.getElem?_append_right (by omega), hl, Nat.sub_self]
        rfl
      · rw [if_neg (fun z => e (int_inl z)), if_neg e, List.getElem?_append_left (hlt r hr)]
    · rw [List.map_map, show ((fun x => x.1) ∘ fun r : Nat × Nat => if r.1 = x.2 then (r.1, i) else r) = fun r => r.1 from funext fun r => by simp only [Function.comp]; split <;> rfl]
      exact I.n1
    · have n1 := I.n1
      have n2 := I.n2
      have lt := I.lt
      clear hmem hlt hx I
      induction rows with
      | nil => exact List.nodup_nil
      | cons r rows ih =>
        rw [List.map_cons] at n1 n2
        have q1 := List.nodup_cons.mp n1
        have q2 := List.nodup_cons.mp n2
        rw [List.map_cons, List.map_cons, List.nodup_cons]
        refine ⟨fun hm => ?_, ih q1.2 q2.2 fun r hr => lt r (List.mem_cons_of_mem _ hr)⟩
        rw [List.map_map] at hm
        obtain ⟨r', h1, h2⟩ := List.mem_map.mp hm
        have l1 := lt r List.mem_cons_self
        have l2 := lt r' (List.mem_cons_of_mem _ h1)
        simp only [Function.comp] at h2
        by_cases e : r.1 = x.2 <;> by_cases e' : r'.1 = x.2
        · exact q1.1 (e.trans e'.symm ▸ List.mem_map.mpr ⟨r', h1, rfl⟩)
        · rw [if_pos e, if_neg e'] at h2
          simp only at h2
          omega
        · rw [if_neg e, if_pos e'] at h2
          simp only at h2
          omega
        · rw [if_neg e, if_neg e'] at h2
          exact q2.1 (h2 ▸ List.mem_map.mpr ⟨r', h1, rfl⟩)
    · intro r hr
      obtain ⟨r', h1, rfl⟩ := List.mem_map.mp hr
      have := I.lt r' h1
      split
      · exact Nat.lt_succ_self _
      · omega
    · rw [hmem, ← I.mem, List.map_map, show ((fun x => x.1) ∘ fun r : Nat × Nat => if r.1 = x.2 then (r.1, i) else r) = fun r => r.1 from funext fun r => by simp only [Function.comp]; split <;> rfl]
      exact ⟨.inl, fun h => h.elim id fun e => e ▸ hx⟩
  · refine ⟨rows ++ [(x.2, i)], ?_, ?_, ?_, ?_, fun n => ?_⟩
    · unfold putT
      rw [ilR_has, if_neg (by simpa using hx)]
      conv => lhs; rw [← ilR_more (a := a) hlt]
      unfold ilR
      rw [List.map_append, List.map_cons, List.map_nil]
      simp only
      rw [List.getElem?_append_right (by omega), hl, Nat.sub_self]
      rfl
    · rw [List.map_append, List.nodup_append]
      refine ⟨I.n1, by simp, fun u hu v hv => ?_⟩
      rw [List.map_cons, List.map_nil, List.mem_singleton] at hv
      have hv : v = x.2 := hv
      rintro rfl
      exact hx (hv ▸ hu)
    · rw [List.map_append, List.nodup_append]
      refine ⟨I.n2, by simp, fun u hu v hv => ?_⟩
      rw [List.map_cons, List.map_nil, List.mem_singleton] at hv
      obtain ⟨r, hr, rfl⟩ := List.mem_map.mp hu
      have := I.lt r hr
      omega
    · intro r hr
      rcases List.mem_append.mp hr with hr | hr
      · have := I.lt r hr
        omega
      · rw [List.mem_singleton.mp hr]
        exact Nat.lt_succ_self _
    · rw [hmem, ← I.mem, List.map_append, List.mem_append]
      simp
/-- what each number's dict holds behind some moves -/
structure IlS (nm : List (Sd × Nat)) (rows : List (Nat × Nat)) (len : Nat) (E : List (Sd × Str × Sd)) (ls : List (List Str)) : Prop where
  ln : ls.length = len
  at_ : ∀ r ∈ rows, ls[r.2]? = some (dedS (ilL nm E r.1))
theorem IlS.skip {nm : List (Sd × Nat)} {rows : List (Nat × Nat)} {len : Nat} {E : List (Sd × Str × Sd)} {ls : List (List Str)} (I : IlS nm rows len E ls) {e : Sd × Str × Sd} (h : ∀ n, ¬ ((e.1, n) ∈ nm ∧ (e.2.2, n) ∈ nm)) : IlS nm rows len (E ++ [e]) ls where
  ln := I.ln
  at_ := fun r hr => by rw [ilL_out (h r.1)]; exact I.at_ r hr
theorem IlS.more {nm : List (Sd × Nat)} {rows : List (Nat × Nat)} {len : Nat} {E : List (Sd × Str × Sd)} {ls : List (List Str)} (I : IlS nm rows len E ls) (hn : (nm.map (·.1)).Nodup) (n1 : (rows.map (·.1)).Nodup) (n2 : (rows.map (·.2)).Nodup) {e : Sd × Str × Sd} {r : Nat × Nat} (hr : r ∈ rows) (h1 : (e.1, r.1) ∈ nm) (h2 : (e.2.2, r.1) ∈ nm) : IlS nm rows len (E ++ [e]) (ls.set r.2 (dedS (ilL nm E r.1 ++ [e.2.1]))) where
  ln := by rw [List.length_set]; exact I.ln
  at_ := fun r' hr' => by
    have hl := (List.getElem?_eq_some_iff.mp (I.at_ r hr)).1
    by_cases e' : r'.1 = r.1
    · have : r' = r := nd_inj n1 hr' hr e'
      subst this
      rw [List.getElem?_set_self hl, ilL_in h1 h2]
    · have hne : r.2 ≠ r'.2 := fun z => e' (by rw [nd_inj n2 hr' hr z.symm])
      rw [List.getElem?_set_ne hne, ilL_out fun ⟨q1, _⟩ => e' (num_one hn q1 h1)]
      exact I.at_ r' hr'
where
  nd_inj {f : Nat × Nat → Nat} {rows : List (Nat × Nat)} (n : (rows.map f).Nodup) {a b : Nat × Nat} (ha : a ∈ rows) (hb : b ∈ rows) (h : f a = f b) : a = b := by
    induction rows with
    | nil => cases ha
    | cons x rows ih =>
      have q := List.nodup_cons.mp (by rw [List.map_cons] at n; exact n)
      rcases List.mem_cons.mp ha with e1 | h1 <;> rcases List.mem_cons.mp hb with e2 | h2
      · rw [e1, e2]
      · exact absurd (List.mem_map.mpr ⟨b, h2, by rw [← h, e1]⟩) q.1
      · exact absurd (List.mem_map.mpr ⟨a, h1, by rw [h, e2]⟩) q.1
      · exact ih q.2 h1 h2
end DL
namespace DL
open PySem L2 PySem.W PyProof.Rows
/-! ### a round along moves that takes all wanted lanes -/
def AvN (nm : List (Sd × Nat)) (E : List (Sd × Str × Sd)) (gs : List Str) (d : D) : Prop :=
  (d = .non ∧ ∀ n ∈ nm.map (·.2), ¬ ∀ g ∈ gs, g ∈ ilL nm E n) ∨ ∃ n : Nat, d = .int (n : Int) ∧ n ∈ nm.map (·.2) ∧ ∀ g ∈ gs, g ∈ ilL nm E n
/-- a standing from which each wanted lane can be taken, and back -/
def AvP (mv : Mv) (gs : List Str) : Prop := ∃ s ∈ mv.map (·.1), ∀ g ∈ gs, ∃ u v, (u, g, v) ∈ edL mv ∧ Ld (mvA mv) s u ∧ Ld (mvA mv) v s
open Classical in
noncomputable def avB (mv : Mv) (gs : List Str) : Bool := decide (AvP mv gs)
open Classical in
theorem avB_iff {mv : Mv} {gs : List Str} : avB mv gs = true ↔ AvP mv gs := decide_eq_true_iff
theorem MvW.lane {mv : Mv} (V : MvW mv) {u v : Sd} {g : Str} (h : (u, g, v) ∈ edL mv) : v ∈ mvA mv u ∧ u ∈ mv.map (·.1) := by
  obtain ⟨x, hx, rfl, he⟩ := edL_mem.mp h
  exact ⟨by rw [mvA_at V.nd hx]; exact List.mem_map.mpr ⟨_, he, rfl⟩, List.mem_map.mpr ⟨x, hx, rfl⟩⟩
theorem LotO.few {mv : Mv} {nm : List (Sd × Nat)} (O : LotO (mvA mv) (mv.map (·.1)) nm) : nm.length ≤ mv.length := by
  have := nd_sub O.nd (ys := mv.map (·.1)) fun x hx => (O.all x).mpr hx
  rw [List.length_map, List.length_map] at this
  exact this
theorem AvN.told {mv : Mv} {nm : List (Sd × Nat)} {gs : List Str} {d : D} (V : MvW mv) (O : LotO (mvA mv) (mv.map (·.1)) nm) (h : AvN nm (edL mv) gs d) : isNonD d = !avB mv gs := by
  have key : AvP mv gs ↔ ∃ n ∈ nm.map (·.2), ∀ g ∈ gs, g ∈ ilL nm (edL mv) n := by
    constructor
    · rintro ⟨s, hs, hg⟩
      obtain ⟨⟨s', n⟩, hsn, e⟩ := List.mem_map.mp ((O.all s).mp hs)
      simp only at e
      subst e
      refine ⟨n, List.mem_map.mpr ⟨_, hsn, rfl⟩, fun g hgm => ?_⟩
      obtain ⟨u, v, he, h1, h2⟩ := hg g hgm
      obtain ⟨hv, hu⟩ := V.lane he
      obtain ⟨⟨u', i⟩, hui, e⟩ := List.mem_map.mp ((O.all u).mp hu)
      simp only at e
      subst e
      obtain ⟨⟨v', j⟩, hvj, e⟩ := List.mem_map.mp ((O.all v).mp (V.to hv))
      simp only at e
      subst e
      have cl : ∀ x ∈ mv.map (·.1), ∀ y ∈ mvA mv x, y ∈ mv.map (·.1) := fun x _ y hy => V.to hy
      have e1 := O.eq cl hsn hui h1 ((Ld.step hv).trans h2)
      have e2 := O.eq cl hsn hvj (h1.tail hv) h2
      subst e1 e2
      exact ilL_mem.mpr ⟨_, _, he, hui, hvj⟩
    · rintro ⟨n, hn, hg⟩
      obtain ⟨⟨s, n'⟩, hsn, e⟩ := List.mem_map.mp hn
      simp only at e
      subst e
      refine ⟨s, (O.all s).mpr (List.mem_map.mpr ⟨_, hsn, rfl⟩), fun g hgm => ?_⟩
      obtain ⟨u, v, he, h1, h2⟩ := ilL_mem.mp (hg g hgm)
      exact ⟨u, v, he, O.same _ _ _ hsn h1, O.same _ _ _ h2 hsn⟩
  rcases h with ⟨rfl, h⟩ | ⟨n, rfl, h1, h2⟩
  · have : avB mv gs = false := by
      rw [← Bool.not_eq_true, avB_iff]
      intro hp
      obtain ⟨n, hn, hg⟩ := key.mp hp
      exact h n hn hg
    rw [this]
    rfl
  · rw [avB_iff.mpr (key.mpr ⟨n, h1, h2⟩)]
    rfl
section
variable {K : PySem.W.Frag} {ro : Ro} {ka k1 : Cells} {te : TE} {P : W → Cells → Prop} {bb : Bool}
end
end DL

/-! FW: an own object as a test (own work). -/
namespace DL
open PySem L2 PySem.Spec PyProof.Rows PySem.W
section
variable {X : Cx} {k : Nat} {C f : Addr} {ps : List Str} {E : XK} {Ct' : Ct} {e : Expr} {te : TE}
theorem pt_own (h : PE X e te) (m : Sm X.K C "__bool__" f) (F : Fn X.prog X.w X.K X.mg X.base k f ps Ct') (hr : Room k X.A) (hx : Passes (L2.CX X.prog X.w) X E)
    (he : ∀ whole, PySem.isTrue e X.env whole = (do let v ← whole; standAt e.pos; holding [v] (truthy v)) := by intro _; rfl) : L2.PT X e (tB (tCB (rBoolO C (spC X.K Ct') E) (tCons te tNil))) where
  run pins s σ H Q I hw := by
    obtain ⟨fd, F, hb⟩ := F
    refine isTrue_plain (L2.thn (h.run pins s σ H (fun x H1 => rBoolO C (spC X.K Ct') E [x] H1 fun v H' => ∃ c, v = .bl c ∧ Q c H') I hw) fun v s1 x => ?_) (he _)
    obtain ⟨x1, H1, I1, r1, a, dx, fs, e1, ha, hsp⟩ := x
    cases e1
    cases r1
    obtain ⟨od, J⟩ := inst_at I1 ha
    obtain ⟨m1, hF⟩ := I1.fr
    refine truthy_K hF I1.ok.mod.kin J m.at_ m.fn (wpAny_mono (run_fn F hr rfl hb hx I1 (.cons (show RelV (.ref a) (.ref a) from rfl) .nil) hsp) (fun r s' hq => ?_) fun _ _ z => z)
    obtain ⟨t, H', I', rt, b, e2, c, e3, q⟩ := hq
    cases e2
    cases e3
    cases rt
    exact ⟨H', I', q⟩
end
end DL

/-! FX: comprehensions over enumerated sequences of one kind; rows of numbers compared (own work). -/
namespace DL
open PySem L2 PySem.Spec PyProof.Rows PySem.W
section
variable {K : PySem.W.Frag} {ro : Ro} {ka k1 k2 k3 : Cells} {te tf : TE} {tt : TT} {j l : Nat} {x y w : W}
end
section
variable {X : Cx}
end
section
variable {K : PySem.W.Frag} {ro : Ro} {ka k1 k2 : Cells} {te tf : TE} {y : W}
end
section
variable {K : PySem.W.Frag} {ro : Ro} {ka k1 k2 : Cells} {te tf : TE} {y w : W}
end
/-! ### what is told of a locked dict's keys; a dict within a dict -/
section
variable {K : PySem.W.Frag} {ro : Ro} {ka : Cells} {te tg : TE} {tt : TT} {j : Nat} {vs : List Nat}
end
section
variable {K : PySem.W.Frag} {B F0 : Hp} {ro : Ro} {ka : Cells} {ta : List (V × W)} {td ty tv : TE} {De : Ends} {a : Addr} {wd : World} {ks : List NestedKey} {P : W → Cells → Prop}
end
section
variable {K : PySem.W.Frag} {ro : Ro} {ka k1 : Cells} {te : TE} {tt : TT} {j l : Nat} {vs : List Nat}
end
end DL

/-! FY: own errors with three fields (own work). -/
namespace DL
open PySem L2 PySem.Spec PyProof.Rows PySem.W
/-- __init__(self, x, y, z): self.f = x; self.g = y; self.h = z -/
def spI3 (K : PySem.W.Frag) (C : Addr) (f1 f2 f3 : Str) : Sp := fun vs H Q _ => ∃ a y1 y2 y3, vs = [.ref a, y1, y2, y3] ∧ OexC K C ∧ findIn K (.ref C) f1 = some none ∧ findIn K (.ref C) f2 = some none ∧ findIn K (.ref C) f3 = some none ∧ H a = some (exo a C none) ∧
  ∀ d, H d = none → d ≠ a → Q .non (upd (upd (upd (upd H d (exd d [(f1, y1)])) a (exo a C (some d))) d (exd d [(f2, y2), (f1, y1)])) d (exd d [(f3, y3), (f2, y2), (f1, y1)]))
theorem init3_ok {P : Program} {w : World} {K : PySem.W.Frag} {mg : Str → Option Value} {base : Heap} {f C : Addr} {fd : FuncData} {nm qual x y z f1 f2 f3 : Str} {params : Arguments} {body : List Stmt} {scope : Scope} {k : Nat} {CX : CXT}
    (F : FunD K nm qual params body scope [] [] f fd) (S : FnScope ["self", x, y, z] ["self", x, y, z] scope)
    (h : ∀ (cdv : Value) (A : Around) (outer : List Env) (s : Shared) (H : Hp) (E : XK), PSs (cxOf CX P w K mg base ["self", x, y, z] qual scope f cdv A outer s H E) body (tSeq (tOst K f1 (tVar 0) (tVar 1)) (tSeq (tOst K f2 (tVar 0) (tVar 2)) (tOst K f3 (tVar 0) (tVar 3))))) : FnOk P w K mg base CX (k + 1) f fd ["self", x, y, z] (spI3 K C f1 f2 f3) :=
  F.ok S (fun vs H Q E ⟨a, y1, y2, y3, e, _⟩ => by rw [e]; rfl) fun cdv A outer s H vs Q E hr ⟨a, y1, y2, y3, e, T, h1, h2, h3, ha, q⟩ => ⟨_, h cdv A outer s H E, by
    subst e
    refine ⟨y1, rfl, .ref a, rfl, a, C, rfl, T, h1, .inl ⟨ha, fun d hd hne => ?_⟩⟩
    refine ⟨y2, rfl, .ref a, rfl, a, C, rfl, T, h2, .inr ⟨d, [(f1, y1)], upd_same, by rw [upd_ne hne]; exact upd_same, (show 1 ≤ 900 by decide), ?_⟩⟩
    refine ⟨y3, rfl, .ref a, rfl, a, C, rfl, T, h3, .inr ⟨d, [(f2, y2), (f1, y1)], by rw [upd_ne (fun z => hne z.symm)]; exact upd_same, upd_same, (show 2 ≤ 900 by decide), ?_⟩⟩
    exact q d hd hne⟩
section
variable {K : PySem.W.Frag} {B F F0 : Hp} {ro : Ro} {ka k1 : Cells} {ta : List (V × W)} {sg : L2.St} {H H' : Hp} {tr : TA} {C : Addr} {f1 f2 f3 : Str} {d1 d2 d3 : D} {De : Ends}
theorem mk3_of {Q : XK} (ha : EvA K tr ro ka [.val d1, .val d2, .val d3] k1) (T : OexC K C) (h1 : findIn K (.ref C) f1 = some none) (h2 : findIn K (.ref C) f2 = some none) (h3 : findIn K (.ref C) f3 = some none) (e : En K B F0 ro ka ta sg H)
    (q : ∀ dx H', En K B F0 ro (k1 ++ [(dx, .xd [(f3, d3), (f2, d2), (f1, d1)])]) ta sg H' → Q (.ref C) (some dx) H') : tMkO C (spI3 K C f1 f2 f3) [] tr sg H Q := ha B F0 ta sg H _ e fun vs H1 hl e1 => by
  match vs, hl with
  | [v1, v2, v3], _ =>
    refine ⟨by show 3 ≤ 1000; omega, fun a hna => ⟨a, v1, v2, v3, rfl, T, h1, h2, h3, upd_same, fun dd hd hne => ⟨rfl, dd, [(f3, v3), (f2, v2), (f1, v1)], ?_, upd_same, ?_, ?_⟩⟩⟩
    · rw [upd_ne (fun z => hne z.symm), upd_ne (fun z => hne z.symm)]
      exact upd_same
    · rwa [upd_ne hne] at hd
    · have hd1 : H1 dd = none := by rwa [upd_ne hne] at hd
      have eH : upd (del (upd (upd (upd (upd (upd H1 a (exo a C none)) dd (exd dd [(f1, v1)])) a (exo a C (some dd))) dd (exd dd [(f2, v2), (f1, v1)])) dd (exd dd [(f3, v3), (f2, v2), (f1, v1)])) a) dd (.xd [(f3, v3), (f2, v2), (f1, v1)]) = upd H1 dd (.xd [(f3, v3), (f2, v2), (f1, v1)]) := by
        funext b
        by_cases h1 : b = dd
        · subst h1
          rw [upd_same, upd_same]
        · rw [upd_ne h1, upd_ne h1]
          by_cases h2 : b = a
          · subst h2
            rw [del_same, hna]
          · rw [del_ne h2, upd_ne h1, upd_ne h1, upd_ne h2, upd_ne h1, upd_ne h2]
      rw [eH]
      obtain ⟨F, g, e1⟩ := e1
      have w1 : WOk K B F v1 (.val d1) := e1.tm _ (List.mem_append_left _ List.mem_cons_self)
      have w2 : WOk K B F v2 (.val d2) := e1.tm _ (List.mem_append_left _ (List.mem_cons_of_mem _ List.mem_cons_self))
      have w3 : WOk K B F v3 (.val d3) := e1.tm _ (List.mem_append_left _ (List.mem_cons_of_mem _ (List.mem_cons_of_mem _ List.mem_cons_self)))
      exact q dd _ ⟨F, g, (e1.cell (o := .xd [(f3, v3), (f2, v2), (f1, v1)]) hd1 (n := .xd [(f3, d3), (f2, d2), (f1, d1)]) ⟨_, upd_same, v3, _, rfl, w3, v2, _, rfl, w2, v1, [], rfl, w1, rfl⟩).held fun p hp => List.mem_append_right _ hp⟩
theorem g_raise3 {out : Out → Cells → Prop} {E : XK} (hX : RxOk K B F0 out E) (ha : EvA K tr ro ka [.val d1, .val d2, .val d3] k1) (T : OexC K C) (h1 : findIn K (.ref C) f1 = some none) (h2 : findIn K (.ref C) f2 = some none) (h3 : findIn K (.ref C) f3 = some none) (o : out (.exc C [(f3, d3), (f2, d2), (f1, d1)]) k1) :
    Gp K B F0 ta (fun σ H => tMkO C (spI3 K C f1 f2 f3) [] tr σ H fun cls dd H' => E cls dd H') ro ka := fun sg H e => mk3_of ha T h1 h2 h3 e fun dx H' e' => hX.1 C _ k1 dx H' o e'.leaveX
end
/-- an own error with three fields -/
structure X3 (P : Program) (w : World) (K : PySem.W.Frag) (mg : Str → Option Value) (base : Heap) (C : Addr) (f1 f2 f3 : Str) : Prop where
  xc : Xc K C
  n1 : findIn K (.ref C) f1 = some none
  n2 : findIn K (.ref C) f2 = some none
  n3 : findIn K (.ref C) f3 = some none
  ex : ∃ fI fd x y z, findIn K (.ref C) "__init__" = some (some (.ref fI)) ∧ typeIn K (.ref fI) = some (.type "function") ∧ FnOk P w K mg base (L2.CX P w) 1 fI fd ["self", x, y, z] (spI3 K C f1 f2 f3) ∧ Binds K fd ["self", x, y, z] []
namespace X3
variable {P : Program} {w : World} {K : PySem.W.Frag} {mg : Str → Option Value} {base : Heap} {C : Addr} {f1 f2 f3 : Str}
noncomputable def fI (Z : X3 P w K mg base C f1 f2 f3) : Addr := Classical.choose Z.ex
noncomputable def fd (Z : X3 P w K mg base C f1 f2 f3) : FuncData := Classical.choose (Classical.choose_spec Z.ex)
noncomputable def px (Z : X3 P w K mg base C f1 f2 f3) : Str := Classical.choose (Classical.choose_spec (Classical.choose_spec Z.ex))
noncomputable def py (Z : X3 P w K mg base C f1 f2 f3) : Str := Classical.choose (Classical.choose_spec (Classical.choose_spec (Classical.choose_spec Z.ex)))
noncomputable def pz (Z : X3 P w K mg base C f1 f2 f3) : Str := Classical.choose (Classical.choose_spec (Classical.choose_spec (Classical.choose_spec (Classical.choose_spec Z.ex))))
theorem all (Z : X3 P w K mg base C f1 f2 f3) : findIn K (.ref C) "__init__" = some (some (.ref Z.fI)) ∧ typeIn K (.ref Z.fI) = some (.type "function") ∧ FnOk P w K mg base (L2.CX P w) 1 Z.fI Z.fd ["self", Z.px, Z.py, Z.pz] (spI3 K C f1 f2 f3) ∧ Binds K Z.fd ["self", Z.px, Z.py, Z.pz] [] :=
  Classical.choose_spec (Classical.choose_spec (Classical.choose_spec (Classical.choose_spec (Classical.choose_spec Z.ex))))
end X3
end DL

/-! FZ: statements that are never reached (own work). -/
namespace DL
open PySem L2 PySem.Spec PyProof.Rows PySem.W
/-- what is never reached -/
def tNoS : TS := fun _ _ _ => False
theorem ps_no {X : Cx} {st : Stmt} : PS X st tNoS := ⟨fun _ _ _ _ _ _ h => h.elim⟩
end DL

namespace K66
open PySem L2 DL PySem.W
section
variable {P : Program} {w : World} {K : PySem.W.Frag} {mg : Str → Option Value} {base : Heap}
end
def ct_is_name (K : PySem.W.Frag) : Ct := Ct1 fun a ka out => ∃ d, a = .val d ∧ nmOk d ∧ ka = [] ∧ out = Rt (.bl (isNmD d)) []
section
variable {P : Program} {w : World} {K : PySem.W.Frag} {mg : Str → Option Value} {base : Heap}
theorem ok_is_name (T : Tx K mg) : Fn P w K mg base 4 (He.ga K "is_name") ["word"] (ct_is_name K) := by
  obtain ⟨fd, F⟩ := T.d_is_name
  refine fn_ok F sc_is_name (fun _ _ _ _ _ _ us hl => match us, hl with | [_], _ => rfl) ct1_len (fun cdv A outer s H E hr => ⟨_, (pss_cons (ps_if (PW.pt (pw_or (pt_not (pt_val (pe_callB call_isi rfl T.n_isinstance (by decide +kernel) (pa_cons (pv 0) (pa_cons (pe_bltn (v := .ty "str") rfl T.n_str (by decide +kernel) rfl) pa_nil))))) (pw_or (pt_cmpR (op_eqP (by have := (hr).units; exact this)) (pv 0) pe_str (nomark _)) (pw_or (pt_cmpR op_gt (pe_callB call_lenU rfl T.n_len (by decide +kernel) (pa_cons (pv 0) pa_nil)) (pe_gv rfl T.v_LONGEST) (nomark _)) (pw_or1 (pt_cmpR op_niU (pe_ix ix_seq (pv 0) pe_int fun _ _ => rfl) (pe_gv rfl T.v_LETTERS) (by with_unfolding_all rfl)))))))
      (pss_one (ps_ret pe_bl))
      pss_nil)
      (pss_one (ps_ret (pe_callB (cr_all rfl) rfl T.n_all (by decide +kernel) (pa_cons (pe_lc (te := (tOrV (tOp (rInU K) (tVar 1) (tC (.str "abcdefghijklmnopqrstuvwxyz"))) (tOp (rInU K) (tVar 1) (tC (.str "0123456789"))))) (tt := tYes) (own := [("sign", 1)]) rfl sc_is_name.nd (pi_seq (pv 0)) (blk_ok ["word", "sign"] (defScope s_is_name) rfl rfl (by decide +kernel)) (fun _ _ _ _ _ => (pg_name (i := 1) sc_is_name.nd rfl (by first | exact Or.inl rfl | exact Or.inr rfl))) (fun _ _ _ _ _ => pts_nil) (fun _ _ _ _ _ => (pe_or (pe_cmpR op_inU (pv 1) (pe_gv rfl T.v_LETTERS) (by with_unfolding_all rfl)) (pe_one (pe_cmpR op_inU (pv 1) (pe_gv rfl T.v_DIGITS) (by with_unfolding_all rfl)))))) pa_nil))))), fun ws ka out B F0 Q hC hR hX => ?_⟩)
  obtain ⟨a, rfl, d, rfl, hd, rfl, rfl⟩ := hC
  have other : (∃ s, d = .str s) ∨ ∃ t, tyD d = some t ∧ kitOne K (.type t) (.type "str") = some false ∧ isNmD d = false := by
    cases d with
    | non => exact .inr ⟨_, rfl, T.kt_NoneType_str, rfl⟩
    | bl b => exact .inr ⟨_, rfl, T.kt_bool_str, rfl⟩
    | int i => exact .inr ⟨_, rfl, T.kt_int_str, rfl⟩
    | lst ds => exact .inr ⟨_, rfl, T.kt_list_str, rfl⟩
    | tup ds => exact .inr ⟨_, rfl, T.kt_tuple_str, rfl⟩
    | str s => exact .inl ⟨s, rfl⟩
    | _ => exact absurd rfl hd
  rcases other with ⟨s, rfl⟩ | ⟨t, ht, hk, hn⟩
  · have hs : s.length ≤ 100000 := Nat.le_trans hd (by decide)
    cases hc : s.cps.toList with
    | nil =>
      have e := str_nil hc
      refine q_when (et_or0 ((et_not (et_B (ev_isi (ev_var rfl) .str T.kt_str_str))).to rfl) (et_or1 ((et_test (ev_eqS (ev_var rfl) ev_str)).to (by rw [e]; rfl)))) (fun _ => g_ret hR ev_bl ⟨?_, rfl⟩) (fun z => by cases z)
      show Out.ret (.bl false) = Out.ret (.bl (isNm s))
      unfold isNm
      rw [hc]
      rfl
    | cons c r =>
      have e : (s == ("" : Str)) = false := by
        refine beq_eq_false_iff_ne.mpr fun z => ?_
        rw [z] at hc
        cases hc
      have hl : s.length = (c :: r).length := by rw [str_len, hc]
      refine q_when (et_or0 ((et_not (et_B (ev_isi (ev_var rfl) .str T.kt_str_str))).to rfl) (et_or0 ((et_test (ev_eqS (ev_var rfl) ev_str)).to e) (et_or (et_test (ev_gt (ev_lenS (ev_var rfl) hs) ev_int)) (fun _ => et_test (ev_niS (ev_ixS (c := c) (ev_var rfl) ev_int hs (by rw [hc]; exact at0)) ev_str))))) (fun hb => g_ret hR ev_bl ⟨?_, rfl⟩) (fun hb => ?_)
      · show Out.ret (.bl false) = Out.ret (.bl (isNm s))
        unfold isNm nmL
        rw [hc]
        rw [Bool.or_eq_true, decide_eq_true_eq, Bool.not_eq_true', decide_eq_false_iff_not] at hb
        rcases hb with hb | hb
        · have : ¬ (c :: r).length ≤ 8 := by rw [← hl]; omega
          simp only [decide_eq_false this, Bool.false_and]
        · have : decide (c ∈ letL) = false := decide_eq_false hb
          simp only [this, Bool.false_and, Bool.and_false]
      · rw [Bool.or_eq_false_iff, decide_eq_false_iff_not, Bool.not_eq_false', decide_eq_true_eq] at hb
        refine g_ret hR (ev_cb (ea1 (evn_map (f := fun x => D.bl (decide (x ∈ letL) || decide (x ∈ digL))) (ei_str (ev_var rfl)) (by decide) (by rw [← str_len]; omega) ⟨trivial, fun _ => trivial⟩ (fun x hx => ev_orV (ev_inS (ev_var rfl) ev_str) fun _ => ev_inS (ev_var rfl) ev_str)).lst) (rc_all (b := false) (bs := s.cps.toList.map fun x => decide (x ∈ letL) || decide (x ∈ digL)) ?_)) ⟨?_, rfl⟩
        · rw [List.map_map]
          exact .vl
        · show Out.ret _ = Out.ret (.bl (isNm s))
          unfold isNm nmL
          rw [hc, List.all_map]
          have h1 : (c :: r).length ≤ 8 := by rw [← hl]; omega
          have h2 : decide (c ∈ letL) = true := decide_eq_true hb.2
          simp only [decide_eq_true h1, h2, Bool.true_and]
          rfl
  · exact q_when (et_or1 ((et_not (et_B (ev_isi (ev_var rfl) (tw_of ht) hk))).to rfl)) (fun _ => g_ret hR ev_bl ⟨by rw [hn], rfl⟩) (fun z => by cases z)
end
def ct_is_whole (K : PySem.W.Frag) : Ct := Ct1 fun a ka out => ∃ d, a = .val d ∧ tyD d ≠ none ∧ ka = [] ∧ out = Rt (.bl (isWh d)) []
section
variable {P : Program} {w : World} {K : PySem.W.Frag} {mg : Str → Option Value} {base : Heap}
theorem ok_is_whole (T : Tx K mg) : Fn P w K mg base 4 (He.ga K "is_whole") ["value"] (ct_is_whole K) := by
  obtain ⟨fd, F⟩ := T.d_is_whole
  refine fn_ok F sc_is_whole (fun _ _ _ _ _ _ us hl => match us, hl with | [_], _ => rfl) ct1_len (fun cdv A outer s H E hr => ⟨_, (pss_one (ps_ret (pe_and (pe_callB call_isi rfl T.n_isinstance (by decide +kernel) (pa_cons (pv 0) (pa_cons (pe_bltn (v := .ty "int") rfl T.n_int (by decide +kernel) rfl) pa_nil))) (pe_one (pe_not (pe_callB call_isi rfl T.n_isinstance (by decide +kernel) (pa_cons (pv 0) (pa_cons (pe_bltn (v := .ty "bool") rfl T.n_bool (by decide +kernel) rfl) pa_nil)))))))), fun ws ka out B F0 Q hC hR hX => ?_⟩)
  obtain ⟨a, rfl, d, rfl, hd, rfl, rfl⟩ := hC
  have other : (∃ i, d = .int i) ∨ (∃ b, d = .bl b) ∨ ∃ t, tyD d = some t ∧ kitOne K (.type t) (.type "int") = some false ∧ isWh d = false := by
    cases d with
    | non => exact .inr (.inr ⟨_, rfl, T.kt_NoneType_int, rfl⟩)
    | str b => exact .inr (.inr ⟨_, rfl, T.kt_str_int, rfl⟩)
    | lst ds => exact .inr (.inr ⟨_, rfl, T.kt_list_int, rfl⟩)
    | tup ds => exact .inr (.inr ⟨_, rfl, T.kt_tuple_int, rfl⟩)
    | int i => exact .inl ⟨i, rfl⟩
    | bl b => exact .inr (.inl ⟨b, rfl⟩)
    | _ => exact absurd rfl hd
  rcases other with ⟨i, rfl⟩ | ⟨b, rfl⟩ | ⟨t, ht, hk, hn⟩
  · exact g_ret hR (ev_andV1 (ev_isi (ev_var rfl) .int T.kt_int_int) (ev_notV (ev_isi (ev_var rfl) .int T.kt_int_bool))) ⟨rfl, rfl⟩
  · exact g_ret hR (ev_andV1 (ev_isi (ev_var rfl) .bl T.kt_bool_int) (ev_notV (ev_isi (ev_var rfl) .bl T.kt_bool_bool))) ⟨rfl, rfl⟩
  · exact g_ret hR (ev_andV0 (ev_isi (ev_var rfl) (tw_of ht) hk)) ⟨by rw [hn], rfl⟩
end
/-- the first of xs that ys has not -/
def fmD (xs ys : List Str) : D := match xs.find? fun x => !decide (x ∈ ys) with
  | some x => .str x
  | none => .non
theorem fmD_skip {xs ys : List Str} : (∀ x ∈ xs, x ∈ ys) → fmD xs ys = .non := fun h => by
  unfold fmD
  rw [List.find?_eq_none.mpr fun x hx => by simp [h x hx]]
theorem fmD_at {xs ys : List Str} {i : Nat} {x : Str} (h : ∀ y ∈ xs.take i, y ∈ ys) (hx : xs[i]? = some x) (hn : ¬ x ∈ ys) : fmD xs ys = .str x := by
  have e : xs = xs.take i ++ x :: xs.drop (i + 1) := by
    obtain ⟨hi, rfl⟩ := List.getElem?_eq_some_iff.mp hx
    rw [List.getElem_cons_drop, List.take_append_drop]
  unfold fmD
  rw [e, List.find?_append, List.find?_eq_none.mpr (fun y hy => by simp [h y hy]), Option.none_or, List.find?_cons_of_pos (by simp [hn])]
theorem fm_none {xs ys : List Str} : isNonD (fmD xs ys) = xs.all fun p => decide (p ∈ ys) := by
  unfold fmD
  cases h : xs.find? fun x => !decide (x ∈ ys) with
  | none =>
    symm
    rw [show isNonD D.non = true from rfl, List.all_eq_true]
    intro x hx
    have := List.find?_eq_none.mp h x hx
    simpa using this
  | some x =>
    symm
    rw [show isNonD (D.str x) = false from rfl, ← Bool.not_eq_true, List.all_eq_true]
    intro z
    have := List.find?_some h
    rw [Bool.not_eq_true', decide_eq_false_iff_not] at this
    exact this (of_decide_eq_true (z x (List.mem_of_find?_eq_some h)))
def ct_first_missing (K : PySem.W.Frag) : Ct := Ct2 fun a b ka out => ∃ xs ys t1 b1, Lk ka a t1 (stD xs) b1 ∧ HasS ka b ys ∧ out = Rt (fmD xs ys) ka
section
variable {P : Program} {w : World} {K : PySem.W.Frag} {mg : Str → Option Value} {base : Heap}
theorem ok_first_missing (T : Tx K mg) : Fn P w K mg base 4 (He.ga K "first_missing") ["names", "known"] (ct_first_missing K) := by
  obtain ⟨fd, F⟩ := T.d_first_missing
  refine fn_ok F sc_first_missing (fun _ _ _ _ _ _ us hl => match us, hl with | [_, _], _ => rfl) ct2_len (fun cdv A outer s H E hr => ⟨_, (pss_cons (ps_for (passes_of rfl) rfl (pi_seq (pv 0)) (pg_name (i := 2) sc_first_missing.nd rfl (by first | exact Or.inl rfl | exact Or.inr rfl)) (pss_one (ps_if (pt_cmpR (op_niD (hu1 hr)) (pv 2) (pv 1) (by with_unfolding_all rfl))
      (pss_one (ps_ret (pv 2)))
      pss_nil)))
      (pss_one (ps_ret pe_non))), fun ws ka out B F0 Q hC hR hX => ?_⟩)
  obtain ⟨a, b, rfl, xs, ys, t1, b1, l1, l2, rfl⟩ := hC
  refine q_forn (ei_seq (ev_var rfl) l1) (fun i ro ka' => ∃ v, ro = [some a, some b, v] ∧ ka' = ka ∧ ∀ y ∈ xs.take i, y ∈ ys) ⟨none, rfl, rfl, fun y hy => by cases hy⟩ (fun i ro2 ka2 ⟨v, _, e, _⟩ => e ▸ l1.stay) (fun i w ro2 ka2 ta' hw ⟨v, e1, e2, hs⟩ => ?_) (fun ro2 ka2 ta' ⟨v, e1, e2, hs⟩ _ => ?_)
  · subst e1 e2
    rw [List.getElem?_map] at hw
    cases hx : xs[i]? with
    | none => rw [show (stD xs)[i]? = none by unfold stD; rw [List.getElem?_map, hx]; rfl] at hw; cases hw
    | some x =>
      rw [stD_get hx] at hw
      cases hw
      have hp : part b1 (.str x) = .val (.str x) := by cases b1 <;> rfl
      rw [hp]
      refine g_if (et_test (ev_niH (ev_var rfl) (ev_var rfl) l2)) (fun hb => g_ret hR (ev_var rfl) ⟨?_, rfl⟩) (fun hb => g_next (g_jp ⟨_, rfl, rfl, fun y hy => ?_⟩))
      · rw [Bool.not_eq_true', decide_eq_false_iff_not] at hb
        rw [fmD_at hs hx hb]
      · rw [Bool.not_eq_false', decide_eq_true_eq] at hb
        rw [take_succ_some hx] at hy
        rcases List.mem_append.mp hy with hy | hy
        · exact hs y hy
        · rw [List.mem_singleton.mp hy]; exact hb
  · subst e1 e2
    rw [List.length_map, stD_len, List.take_length] at hs
    exact g_ret hR ev_non ⟨by rw [fmD_skip hs], rfl⟩
end
def ckOut (K : PySem.W.Frag) (ds : List D) (ka : Cells) : Oc := match ds, ds.find? (fun d => !isNmD d) with
  | [], _ => X0 (He.ga K "EmptyWalk") ka
  | _ :: _, none => Rt .non ka
  | _ :: _, some d => Xt (He.ga K "BadName") [("name", d)] ka
theorem ck_ok {K : PySem.W.Frag} {ds : List D} {ka : Cells} (h0 : ds ≠ []) (h : ∀ d ∈ ds, isNmD d = true) : ckOut K ds ka = Rt .non ka := by
  unfold ckOut
  rw [find_none (p := fun d => !isNmD d) fun e he => by rw [h e he]; rfl]
  cases ds with
  | nil => exact absurd rfl h0
  | cons d r => rfl
theorem ck_bad {K : PySem.W.Frag} {ds : List D} {d : D} {ka : Cells} (h : ds.find? (fun d => !isNmD d) = some d) : ckOut K ds ka = Xt (He.ga K "BadName") [("name", d)] ka := by
  unfold ckOut
  rw [h]
  cases ds with
  | nil => cases h
  | cons d r => rfl
def ct_check_lanes (K : PySem.W.Frag) : Ct := Ct1 fun a ka out => ∃ t ds b, Lk ka a t ds b ∧ SqF b ds ∧ (∀ d ∈ ds, nmOk d) ∧ out = ckOut K ds ka
section
variable {P : Program} {w : World} {K : PySem.W.Frag} {mg : Str → Option Value} {base : Heap}
theorem ok_check_lanes (T : Tx K mg) (F_is_name : Fn P w K mg base 4 (He.ga K "is_name") ["word"] (ct_is_name K)) (Z_BadName : Xn P w K mg base (He.ga K "BadName") "name") : Fn P w K mg base 6 (He.ga K "check_lanes") ["lanes"] (ct_check_lanes K) := by
  obtain ⟨fd, F⟩ := T.d_check_lanes
  refine fn_ok F sc_check_lanes (fun _ _ _ _ _ _ us hl => match us, hl with | [_], _ => rfl) ct1_len (fun cdv A outer s H E hr => ⟨_, (pss_cons (ps_if (pt_cmpR (op_eqP (by have := (hr).units; exact this)) (pe_callB call_lenU rfl T.n_len (by decide +kernel) (pa_cons (pv 0) pa_nil)) pe_int (nomark _))
      (pss_one (ps_raise rfl (takes_of rfl rfl rfl rfl) (pmk_zero PySem.F.excBase_ValueError T.x0_EmptyWalk.1 T.g_EmptyWalk.1 T.x0_EmptyWalk.2.1 (raises_own T.x0_EmptyWalk.2.2.1 T.x0_EmptyWalk.2.2.2) rfl)))
      pss_nil)
      (pss_one (ps_for (passes_of rfl) rfl (pi_seq (pv 0)) (pg_name (i := 1) sc_check_lanes.nd rfl (by first | exact Or.inl rfl | exact Or.inr rfl)) (pss_one (ps_if (pt_not (pt_val (pe_call (F_is_name.up (by decide)).ok hr rfl T.g_is_name.1 T.g_is_name.2 (F_is_name.up (by decide)).bn .nil (pass_own rfl rfl rfl rfl) (pa_cons (pv 1) pa_nil))))
      (pss_one (ps_raise rfl (takes_of rfl rfl rfl rfl) (pmk_oex Z_BadName.xc.oex Z_BadName.all.1 Z_BadName.all.2.1 Z_BadName.all.2.2.1 (hr.mono (by decide)) Z_BadName.all.2.2.2 .nil passes_no rfl T.g_BadName.1 (pa_cons (pv 1) pa_nil))))
      pss_nil))))), fun ws ka out B F0 Q hC hR hX => ?_⟩)
  obtain ⟨a, rfl, t, ds, b, l, hf, hd, rfl⟩ := hC
  cases ds with
  | nil => exact q_when ((et_test (ev_eqI (ev_len (ev_var rfl) l) ev_int)).to (b := true) rfl) (fun _ => g_raise0 hX ⟨rfl, rfl⟩) (fun z => by cases z)
  | cons d0 ds0 =>
    refine q_when ((et_test (ev_eqI (ev_len (ev_var rfl) l) ev_int)).to (b := false) ?_) (fun z => by cases z) (fun _ => ?_)
    · refine beq_eq_false_iff_ne.mpr fun z => ?_
      rw [List.length_cons] at z
      omega
    generalize hds : d0 :: ds0 = ds at *
    refine g_forn (ei_seq (ev_var rfl) l) (fun i ro2 ka2 => (∃ v, ro2 = [some a, v]) ∧ ka2 = ka ∧ ∀ d ∈ ds.take i, isNmD d = true) ⟨⟨none, rfl⟩, rfl, fun d h => by simp at h⟩ (fun i ro2 ka2 ⟨_, e, _⟩ => e ▸ l.stay) (fun i w2 ro2 ka2 ta' hw ⟨⟨v, e1⟩, e2, e3⟩ => ?_) (fun ro2 ka2 ta' ⟨⟨v, e1⟩, e2, e3⟩ _ => ?_)
    · subst e1 e2
      rw [List.getElem?_map] at hw
      cases hx : ds[i]? with
      | none => rw [hx] at hw; cases hw
      | some d =>
        rw [hx] at hw
        have hm : d ∈ ds := List.mem_of_getElem? hx
        have hw2 : part b d = w2 := by cases hw; rfl
        rw [part_of hf hm] at hw2
        subst hw2
        refine g_if (et_not (et_B (ev_callP (ea1 (ev_var rfl)) ⟨_, rfl, d, rfl, hd d hm, rfl, rfl⟩))) (fun hb => g_raise1 hX (ea1 (ev_var rfl)) Z_BadName.xc.oex Z_BadName.no ?_) (fun hb => g_next (g_jp ⟨⟨_, rfl⟩, rfl, fun e he => ?_⟩))
        · rw [ck_bad (find_first (p := fun d => !isNmD d) (fun e he => by rw [e3 e he]; rfl) hx hb)]
          exact ⟨rfl, rfl⟩
        · rw [take_succ_some hx] at he
          rcases List.mem_append.mp he with he | he
          · exact e3 e he
          · rw [List.mem_singleton.mp he]
            simpa using hb
    · subst e1 e2
      rw [List.length_map, List.take_length] at e3
      refine g_end hR ?_
      rw [ck_ok (by rw [← hds]; simp) e3]
      exact ⟨rfl, rfl⟩
end
/-! ### nets as data -/
/-- a lane, its start, its end -/
abbrev Ln := Str × Str × Str
def lnD (r : Ln) : D := .tup [.str r.2.1, .str r.2.2]
def enD (es : List Ln) : List (Key × D) := es.map fun r => (.inr r.1, lnD r)
def lnN (es : List Ln) : List Str := es.map (·.1)
def NetD (K : PySem.W.Frag) (ps : List Str) (es : List Ln) : D := .ins (He.ga K "Net") [("order", .lst (stD ps)), ("ends_by_lane", .dic (enD es))]
def NetC (K : PySem.W.Frag) (a o d : Addr) (ps : List Str) (es : List Ln) : Cells := [(a, .ins (He.ga K "Net") [("order", .adr o), ("ends_by_lane", .adr d)]), (o, .lst (stD ps)), (d, .dic (enD es))]
theorem frz_net {K : PySem.W.Frag} {kt : Cells} {a o d : Addr} {ps : List Str} {es : List Ln} (h : ∀ p ∈ NetC K a o d ps es, p ∈ kt) : FrzD K kt a (NetD K ps es) :=
  frz_i (h _ List.mem_cons_self) ⟨_, _, rfl, .a (frz_l (h _ (List.mem_cons_of_mem _ List.mem_cons_self)) (FzL.same _)), _, _, rfl, .a (frz_d (h _ (List.mem_cons_of_mem _ (List.mem_cons_of_mem _ List.mem_cons_self)))), rfl⟩
theorem net_kd {K : PySem.W.Frag} {a o d : Addr} {ps : List Str} {es : List Ln} : ∀ p ∈ NetC K a o d ps es, ndK p.2 = true := fun p hp => by
  rcases List.mem_cons.mp hp with rfl | hp
  · rfl
  · rcases List.mem_cons.mp hp with rfl | hp
    · rfl
    · rw [List.mem_singleton.mp hp]; rfl
theorem enD_len (es : List Ln) : (enD es).length = es.length := List.length_map _
theorem lnN_len (es : List Ln) : (lnN es).length = es.length := List.length_map _
theorem enD_app (es fs : List Ln) : enD (es ++ fs) = enD es ++ enD fs := List.map_append
theorem enD_get {es : List Ln} (hn : (lnN es).Nodup) {i : Nat} {r : Ln} (h : es[i]? = some r) : getT (enD es) (.inr r.1) = some (lnD r) := by
  induction es generalizing i with
  | nil => cases h
  | cons x l ih =>
    have hn2 := List.nodup_cons.mp hn
    unfold getT enD
    rw [List.map_cons, List.find?_cons]
    cases i with
    | zero =>
      cases h
      rw [decide_eq_true rfl]
      rfl
    | succ i =>
      have hm : r.1 ∈ lnN l := List.mem_map.mpr ⟨r, List.mem_of_getElem? (by simpa using h), rfl⟩
      have ne : ¬ (Sum.inr x.1 : Int ⊕ Str) = .inr r.1 := fun z => hn2.1 (by have e := Sum.inr.inj z; have hm' : r.1 ∈ l.map (fun x : Ln => x.1) := hm; rw [← e] at hm'; exact hm')
      rw [show decide ((Sum.inr x.1 : Int ⊕ Str) = .inr r.1) = false from decide_eq_false ne]
      exact ih hn2.2 (by simpa using h)
theorem enD_getm {es : List Ln} (hn : (lnN es).Nodup) {r : Ln} (h : r ∈ es) : getT (enD es) (.inr r.1) = some (lnD r) := by
  obtain ⟨i, hi⟩ := List.mem_iff_getElem?.mp h
  exact enD_get hn hi
theorem enD_has {es : List Ln} {s : Str} : hasT (enD es) (.inr s) = decide (s ∈ lnN es) := by
  unfold hasT enD lnN
  rw [List.any_map, Bool.eq_iff_iff, List.any_eq_true, decide_eq_true_eq, List.mem_map]
  constructor
  · rintro ⟨r, h1, h2⟩
    exact ⟨r, h1, Sum.inr.inj (of_decide_eq_true h2)⟩
  · rintro ⟨r, h1, h2⟩
    exact ⟨r, h1, decide_eq_true (congrArg Sum.inr h2)⟩
theorem getT_some {κ α : Type} [DecidableEq κ] (kvs : List (κ × α)) (k : κ) : (getT kvs k).isSome = hasT kvs k := by
  unfold getT hasT
  rw [Option.isSome_map]
  induction kvs with
  | nil => rfl
  | cons x l ih =>
    rw [List.find?_cons, List.any_cons]
    cases h : decide (x.1 = k) with
    | true => rfl
    | false => rw [ih]; rfl
theorem enD_in (es : List Ln) (s : Str) : (getT (enD es) (.inr s)).isSome = decide (s ∈ lnN es) := (getT_some _ _).trans enD_has
theorem enD_put {es : List Ln} {r : Ln} (h : ¬ r.1 ∈ lnN es) : putT (enD es) (.inr r.1) (lnD r) = enD (es ++ [r]) := by
  unfold putT
  rw [if_neg (by rw [enD_has, decide_eq_true_eq]; exact h), enD_app]
  rfl
theorem enD_take {es : List Ln} (hn : (lnN es).Nodup) {i : Nat} {r : Ln} (h : es[i]? = some r) : putT (enD (es.take i)) (.inr r.1) (lnD r) = enD (es.take (i + 1)) := by
  rw [enD_put, take_succ_some h]
  intro hm
  have e : lnN es = lnN (es.take i) ++ (r.1 :: lnN (es.drop (i + 1))) := by
    obtain ⟨hi, rfl⟩ := List.getElem?_eq_some_iff.mp h
    unfold lnN
    have e2 : es = es.take i ++ es[i] :: es.drop (i + 1) := by rw [List.getElem_cons_drop, List.take_append_drop]
    exact (congrArg (List.map fun x : Ln => x.1) e2).trans List.map_append
  rw [e, List.nodup_append] at hn
  exact hn.2.2 _ hm _ List.mem_cons_self rfl
theorem enD_at {es : List Ln} {i : Nat} {kv : Key × D} (h : (enD es)[i]? = some kv) : ∃ r, es[i]? = some r ∧ kv = (.inr r.1, lnD r) := by
  unfold enD at h
  rw [List.getElem?_map] at h
  obtain ⟨r, h1, h2⟩ := Option.map_eq_some_iff.mp h
  exact ⟨r, h1, h2.symm⟩
def rowOf (es : List Ln) (l : Str) : Option Ln := es.find? fun r => decide (r.1 = l)
theorem rowOf_mem {es : List Ln} {l : Str} {r : Ln} (h : rowOf es l = some r) : r ∈ es ∧ r.1 = l := ⟨List.mem_of_find?_eq_some h, of_decide_eq_true (p := r.1 = l) (List.find?_some (p := fun r : Ln => decide (r.1 = l)) h)⟩
theorem rowOf_in {es : List Ln} {l : Str} (h : l ∈ lnN es) : ∃ r, rowOf es l = some r := by
  obtain ⟨r, hr, e⟩ := List.mem_map.mp h
  cases hf : rowOf es l with
  | some r => exact ⟨r, rfl⟩
  | none =>
    have := List.find?_eq_none.mp hf r hr
    exact absurd (decide_eq_true e) this
theorem lnN_at {es : List Ln} {i : Nat} {r : Ln} (h : es[i]? = some r) : (lnN es)[i]? = some r.1 := by
  unfold lnN
  rw [List.getElem?_map, h]
  rfl
def stO (es : List Ln) (x : Str) : Str := match rowOf es x with
  | some r => r.2.1
  | none => ""
def enO (es : List Ln) (x : Str) : Str := match rowOf es x with
  | some r => r.2.2
  | none => ""
theorem row_eqn {es : List Ln} (hn : (lnN es).Nodup) {r : Ln} (m : r ∈ es) : rowOf es r.1 = some r := by
  obtain ⟨r', h⟩ := rowOf_in (List.mem_map.mpr ⟨r, m, rfl⟩ : r.1 ∈ lnN es)
  obtain ⟨m', e⟩ := rowOf_mem h
  obtain ⟨i, hi⟩ := List.mem_iff_getElem?.mp m
  obtain ⟨j, hj⟩ := List.mem_iff_getElem?.mp m'
  have hij : i = j := by
    have h1 := lnN_at hi
    have h2 := lnN_at hj
    rw [e] at h2
    exact (List.getElem?_inj (List.getElem?_eq_some_iff.mp h1).1 hn).mp (h1.trans h2.symm)
  subst hij
  rw [hi] at hj
  rw [h, Option.some.inj hj]
theorem stO_eq {es : List Ln} (hn : (lnN es).Nodup) {r : Ln} (m : r ∈ es) : stO es r.1 = r.2.1 := by unfold stO; rw [row_eqn hn m]
theorem enO_eq {es : List Ln} (hn : (lnN es).Nodup) {r : Ln} (m : r ∈ es) : enO es r.1 = r.2.2 := by unfold enO; rw [row_eqn hn m]
def ct_Net___init (K : PySem.W.Frag) : Ct := Ct3 fun s o e ka out => ∃ a t b ps es, s = .val (.adr a) ∧ ka = [(a, .ins (He.ga K "Net") [])] ∧ Lk ka o t (stD ps) b ∧ ps.length ≤ 50000 ∧ es.length ≤ 50000 ∧ (lnN es).Nodup ∧ ((e = .val .non ∧ es = []) ∨ e = .val (.dic (enD es))) ∧
  out = fun o' k => ∃ o d, o' = .ret .non ∧ k = NetC K a o d ps es
section
variable {P : Program} {w : World} {K : PySem.W.Frag} {mg : Str → Option Value} {base : Heap}
theorem ok_Net___init (T : Tx K mg) : FnE P w K mg base 4 (He.ma K (He.ga K "Net") "__init__") ["self", "order", "ends_by_lane"] [.ref (He.dflAt ("Net", some "__init__") 0 K), .non] (ct_Net___init K) := by
  obtain ⟨fd, F⟩ := T.d_Net___init
  refine fn_okE F sc_Net___init (F.binds1 1 0 (by simp) rfl fun _ _ _ _ _ _ _ us its hu hi => match us, its, hu, hi with | [_], [_, _], _, _ => ⟨_, rfl, rfl⟩) (F.binds1 3 2 (by simp) rfl fun _ _ _ _ _ _ _ us its hu hi => match us, its, hu, hi with | [_, _, _], [_, _], _, _ => ⟨_, rfl, rfl⟩) ct3_len (fun cdv A outer s H E hr => ⟨_, (pss_cons (ps_set (i := 3) sc_Net___init.nd rfl (by first | exact Or.inl rfl | exact Or.inr rfl) (pe_ifExp (pt_cmpR op_isN1 (pv 2) pe_non (nomark _)) pe_dnewK (pv 2)))
      (pss_cons (ps_fld (pv 0) (pe_callTy call_lstU rfl T.n_list (by decide +kernel) (pa_cons (pv 1) pa_nil)) rfl)
      (pss_one (ps_fld (pv 0) (pe_lkE (pe_dc (tk := (tVar 4)) (tv := (tDGet (tVar 3) (tVar 4))) (tt := tYes) (own := [("lane", 4)]) rfl sc_Net___init.nd (pi_keys (pv 3)) (blk_ok ["self", "order", "ends_by_lane", "known", "lane"] (defScope s_Net___init) rfl rfl (by decide +kernel)) (fun _ _ _ _ _ => (pg_name (i := 4) sc_Net___init.nd rfl (by first | exact Or.inl rfl | exact Or.inr rfl))) (fun _ _ _ _ _ => pts_nil) (fun _ _ _ _ _ => (pv 4)) (fun _ _ _ _ _ => (pe_dget (hu1 hr) (pv 3) (pv 4) fun _ _ => rfl)))) rfl)))), fun ws ka out B F0 Q hC hR hX => ?_⟩)
  obtain ⟨s, o, e, rfl, a, t, b, ps, es, rfl, rfl, lo, hps, hes, hn, he, rfl⟩ := hC
  have main : Gp K B F0 [] (tSeq (sFld K (tVar 0) (tCB (rLstU K) (tCons (tVar 1) tNil)) "order") (sFld K (tVar 0) (tLkE (tDc (iKeys (tVar 3)) (gName 4) tYes (tVar 4) (tDGet (tVar 3) (tVar 4)) [4])) "ends_by_lane") { nx := fun _ H' => Q .non H', rt := Q })
      [some (.val (.adr a)), some o, some e, some (.val (.dic (enD es))), none] [(a, .ins (He.ga K "Net") [])] := by
    refine q_fldR (C := He.ga K "Net") (a := a) (evn_cb (ea1 (ev_var rfl)) (rcn_lst lo (sqf_stD b ps))).toR T.cl_Net T.na_Net_order (fun w k1 ⟨p, h1, h2⟩ => ⟨.adr p, k1, 0, [], h1, ev_var rfl, by rw [h2]; rfl, by decide, ?_⟩)
    subst h2
    refine g_fldR (C := He.ga K "Net") (a := a) (evr_dcK (evp_var rfl) (by simp) (by rw [enD_len]; omega) (fun i acc k => acc = enD (es.take i) ∧ k = [(a, .ins (He.ga K "Net") [("order", .adr p)]), (p, .lst (stD ps))]) ⟨rfl, rfl⟩ (fun i kv acc k hk ⟨e1, e2⟩ => ?_)).toR T.cl_Net T.na_Net_ends_by_lane (fun w k1 ⟨d, n, k0, h1, ⟨acc, h2, h3, h4⟩, h5⟩ => ⟨.adr d, k1, 0, [("order", .adr p)], h1, ev_var rfl, by rw [h5, h4]; rfl, (show 1 < 900 by decide), ?_⟩)
    · obtain ⟨r, hr1, rfl⟩ := enD_at hk
      subst e1 e2
      exact .inr ⟨_, _, _, .inr r.1, lnD r, et_yes, ev_var rfl, ev_dgetV (ev_var rfl) (ev_var rfl) .v (enD_get hn hr1), enD_take hn hr1, rfl⟩
    · subst h5 h4 h2 h3
      rw [enD_len, List.take_length]
      exact g_end hR ⟨p, d, rfl, rfl⟩
  rcases he with ⟨rfl, rfl⟩ | rfl
  · exact q_asgR (evr_ifT ((et_test (ev_isN (ev_var rfl))).to rfl) evn_dnew.toR) fun w k1 ⟨a1, h1, h2⟩ => by
      subst h1 h2
      exact Gp.frzK (i := 3) rfl (List.Perm.refl _) main
  · exact q_asg (ev_ifF ((et_test (ev_isN (ev_var rfl))).to rfl) (ev_var rfl)) main
end
/-- w is a net: its two fields -/
structure NetW (K : PySem.W.Frag) (ka : Cells) (s : W) (ps : List Str) (es : List Ln) : Prop where
  as : s = .val (NetD K ps es) ∨ ∃ a o d, s = .val (.adr a) ∧ ka = NetC K a o d ps es
theorem NetW.order {K : PySem.W.Frag} {ka : Cells} {s : W} {ps : List Str} {es : List Ln} {te : TE} {ro : Ro} (h : NetW K ka s ps es) (c : Cls K (He.ga K "Net")) (nf : NoAttr K (He.ga K "Net") "order") (he : EvD K te ro ka s ka) :
    ∃ x, EvD K (tFld K te "order") ro ka x ka ∧ Lk ka x false (stD ps) false := by
  rcases h.as with rfl | ⟨a, o, d, rfl, rfl⟩
  · exact ⟨_, ev_fld he .v c nf rfl, .vl⟩
  · exact ⟨_, ev_fld he (.c 0 rfl) c nf rfl, .ce 1 rfl⟩
theorem NetW.ends {K : PySem.W.Frag} {ka : Cells} {s : W} {ps : List Str} {es : List Ln} {te : TE} {ro : Ro} (h : NetW K ka s ps es) (c : Cls K (He.ga K "Net")) (nf : NoAttr K (He.ga K "Net") "ends_by_lane") (he : EvD K te ro ka s ka) :
    ∃ x, EvD K (tFld K te "ends_by_lane") ro ka x ka ∧ Dk ka x (enD es) false := by
  rcases h.as with rfl | ⟨a, o, d, rfl, rfl⟩
  · exact ⟨_, ev_fld he .v c nf rfl, .v⟩
  · exact ⟨_, ev_fld he (.c 0 rfl) c nf rfl, .ce 2 rfl⟩
def ct_Net_posts (K : PySem.W.Frag) : Ct := Ct1 fun s ka out => ∃ ps es, NetW K ka s ps es ∧ out = Rt (.tup (stD ps)) ka
section
variable {P : Program} {w : World} {K : PySem.W.Frag} {mg : Str → Option Value} {base : Heap}
theorem ok_Net_posts (T : Tx K mg) : Fn P w K mg base 4 (pga K (He.ga K "Net") "posts") ["self"] (ct_Net_posts K) := by
  obtain ⟨fd, F⟩ := T.d_Net_posts
  refine fn_ok F sc_Net_posts (fun _ _ _ _ _ _ us hl => match us, hl with | [_], _ => rfl) ct1_len (fun cdv A outer s H E hr => ⟨_, (pss_one (ps_ret (pe_callTy call_tupU rfl T.n_tuple (by decide +kernel) (pa_cons (pe_fld (pv 0) rfl) pa_nil)))), fun ws ka out B F0 Q hC hR hX => ?_⟩)
  obtain ⟨s, rfl, ps, es, h, rfl⟩ := hC
  obtain ⟨x, h1, h2⟩ := h.order T.cl_Net T.na_Net_order (te := tVar 0) (ro := [some s]) (ev_var rfl)
  exact g_ret hR (ev_cb (ea1 h1) (rc_tupL h2 (sqf_stD _ _))) ⟨rfl, rfl⟩
end
def ct_Net_lanes (K : PySem.W.Frag) : Ct := Ct1 fun s ka out => ∃ ps es, s = .val (NetD K ps es) ∧ es.length ≤ 50000 ∧ ka = [] ∧ out = Rt (.tup (stD (lnN es))) []
section
variable {P : Program} {w : World} {K : PySem.W.Frag} {mg : Str → Option Value} {base : Heap}
theorem ok_Net_lanes (T : Tx K mg) : Fn P w K mg base 4 (pga K (He.ga K "Net") "lanes") ["self"] (ct_Net_lanes K) := by
  obtain ⟨fd, F⟩ := T.d_Net_lanes
  refine fn_ok F sc_Net_lanes (fun _ _ _ _ _ _ us hl => match us, hl with | [_], _ => rfl) ct1_len (fun cdv A outer s H E hr => ⟨_, (pss_one (ps_ret (pe_callTy call_tupU rfl T.n_tuple (by decide +kernel) (pa_cons (pe_lkE (pe_lc (te := (tVar 1)) (tt := tYes) (own := [("lane", 1)]) rfl sc_Net_lanes.nd (pi_keys (pe_fld (pv 0) rfl)) (blk_ok ["self", "lane"] (defScope s_Net_lanes) rfl rfl (by decide +kernel)) (fun _ _ _ _ _ => (pg_name (i := 1) sc_Net_lanes.nd rfl (by first | exact Or.inl rfl | exact Or.inr rfl))) (fun _ _ _ _ _ => pts_nil) (fun _ _ _ _ _ => (pv 1)))) pa_nil)))), fun ws ka out B F0 Q hC hR hX => ?_⟩)
  obtain ⟨s, rfl, ps, es, rfl, hl, rfl, rfl⟩ := hC
  refine g_ret hR (ev_cb (ea1 ((evr_lcK (evp_fld (evp_var rfl) T.cl_Net T.na_Net_ends_by_lane rfl) (by decide) (by rw [enD_len]; omega) (fun i acc k => acc = stD (lnN (es.take i)) ∧ k = []) ⟨rfl, rfl⟩ (fun i kv acc k hk ⟨e1, e2⟩ => ?_)).lstD (ds := stD (lnN es)) fun n k ⟨acc, e1, e2, e3⟩ => ⟨?_, e3⟩)) (rc_tupL .vl (.inl rfl))) ⟨rfl, rfl⟩
  all_goals first
    | (rw [e1, e2, enD_len, List.take_length]; done)
    | (subst e1 e2
       obtain ⟨r, hr2, rfl⟩ := enD_at hk
       refine .inr ⟨_, _, .str r.1, et_yes, ev_var rfl, ?_, rfl⟩
       rw [take_succ_some hr2]
       have e : lnN (es.take i ++ [r]) = lnN (es.take i) ++ [r.1] := List.map_append
       rw [e, ← stD_app]
       rfl)
end
/-- how post ends -/
def poO (K : PySem.W.Frag) (a o d : Addr) (ps : List Str) (es : List Ln) (x : D) : Oc :=
  if isNmD x = false then Xt (He.ga K "BadName") [("name", x)] (NetC K a o d ps es)
  else match x with
    | .str s => if s ∈ ps then Xt (He.ga K "NameTaken") [("name", x)] (NetC K a o d ps es) else Rt .non (NetC K a o d (ps ++ [s]) es)
    | _ => fun _ _ => True
def ct_Net_post (K : PySem.W.Frag) : Ct := Ct2 fun s b ka out => ∃ a o d ps es x, s = .val (.adr a) ∧ b = .val x ∧ nmOk x ∧ ps.length < 50000 ∧ ka = NetC K a o d ps es ∧ out = poO K a o d ps es x
section
variable {P : Program} {w : World} {K : PySem.W.Frag} {mg : Str → Option Value} {base : Heap}
theorem ok_Net_post (T : Tx K mg) (F_is_name : Fn P w K mg base 4 (He.ga K "is_name") ["word"] (ct_is_name K)) (Z_BadName : Xn P w K mg base (He.ga K "BadName") "name") (Z_NameTaken : Xn P w K mg base (He.ga K "NameTaken") "name") : Fn P w K mg base 6 (He.ma K (He.ga K "Net") "post") ["self", "name"] (ct_Net_post K) := by
  obtain ⟨fd, F⟩ := T.d_Net_post
  refine fn_ok F sc_Net_post (fun _ _ _ _ _ _ us hl => match us, hl with | [_, _], _ => rfl) ct2_len (fun cdv A outer s H E hr => ⟨_, (pss_cons (ps_if (pt_not (pt_val (pe_call (F_is_name.up (by decide)).ok hr rfl T.g_is_name.1 T.g_is_name.2 (F_is_name.up (by decide)).bn .nil (pass_own rfl rfl rfl rfl) (pa_cons (pv 1) pa_nil))))
      (pss_one (ps_raise rfl (takes_of rfl rfl rfl rfl) (pmk_oex Z_BadName.xc.oex Z_BadName.all.1 Z_BadName.all.2.1 Z_BadName.all.2.2.1 (hr.mono (by decide)) Z_BadName.all.2.2.2 .nil passes_no rfl T.g_BadName.1 (pa_cons (pv 1) pa_nil))))
      pss_nil)
      (pss_cons (ps_if (pt_cmpR op_inU (pv 1) (pe_fld (pv 0) rfl) (by with_unfolding_all rfl))
      (pss_one (ps_raise rfl (takes_of rfl rfl rfl rfl) (pmk_oex Z_NameTaken.xc.oex Z_NameTaken.all.1 Z_NameTaken.all.2.1 Z_NameTaken.all.2.2.1 (hr.mono (by decide)) Z_NameTaken.all.2.2.2 .nil passes_no rfl T.g_NameTaken.1 (pa_cons (pv 1) pa_nil))))
      pss_nil)
      (pss_one (ps_expr (pe_bm PySem.F.plainAttrs_list PySem.F.slot_list_append PySem.F.type_list_append mt_append (pe_fld (pv 0) rfl) (pa_cons (pv 1) pa_nil)))))), fun ws ka out B F0 Q hC hR hX => ?_⟩)
  obtain ⟨s, b, rfl, a, o, d, ps, es, x, rfl, rfl, hx, hl, rfl, rfl⟩ := hC
  refine q_when (et_not (et_B (ev_callP (ea1 (ev_var rfl)) ⟨_, rfl, x, rfl, hx, rfl, rfl⟩))) (fun hb => g_raise1 hX (ea1 (ev_var rfl)) Z_BadName.xc.oex Z_BadName.no ?_) (fun hb => ?_)
  · rw [Bool.not_eq_true'] at hb
    unfold poO
    rw [if_pos hb]
    exact ⟨rfl, rfl⟩
  rw [Bool.not_eq_false'] at hb
  have hs : ∃ s, x = .str s := by
    cases x with
    | str s => exact ⟨s, rfl⟩
    | _ => cases hb
  obtain ⟨s, rfl⟩ := hs
  have fo : ∀ {ro : Ro}, ro[0]? = some (some (.val (.adr a))) → EvD K (tFld K (tVar 0) "order") ro (NetC K a o d ps es) (.val (.adr o)) (NetC K a o d ps es) := fun h => ev_fld (ev_var h) (.c 0 rfl) T.cl_Net T.na_Net_order rfl
  refine q_when (et_test (ev_inL (ev_var rfl) (fo rfl) (.ce 1 rfl))) (fun hm => g_raise1 hX (ea1 (ev_var rfl)) Z_NameTaken.xc.oex Z_NameTaken.no ?_) (fun hm => ?_)
  · rw [decide_eq_true_eq] at hm
    unfold poO
    rw [if_neg (by rw [hb]; decide)]
    show (if s ∈ ps then _ else _ : Oc) _ _
    rw [if_pos hm]
    exact ⟨rfl, rfl⟩
  · rw [decide_eq_false_iff_not] at hm
    refine g_app (j0 := 1) (j := 1) (fo rfl) rfl (ev_var rfl) rfl (by rw [stD_len]; omega) (g_end hR ?_)
    unfold poO
    rw [if_neg (by rw [hb]; decide)]
    show (if s ∈ ps then _ else _ : Oc) _ _
    rw [if_neg hm]
    refine ⟨rfl, ?_⟩
    unfold NetC
    rw [← stD_app]
    rfl
end
/-- how lane ends -/
def laO (K : PySem.W.Frag) (a o d : Addr) (ps : List Str) (es : List Ln) (x : D) (st en : Str) : Oc :=
  if isNmD x = false then Xt (He.ga K "BadName") [("name", x)] (NetC K a o d ps es)
  else match x with
    | .str s => if s ∈ lnN es then Xt (He.ga K "NameTaken") [("name", x)] (NetC K a o d ps es) else if ¬ st ∈ ps then Xt (He.ga K "NoPost") [("name", .str st)] (NetC K a o d ps es) else if ¬ en ∈ ps then Xt (He.ga K "NoPost") [("name", .str en)] (NetC K a o d ps es)
      else Rt .non (NetC K a o d ps (es ++ [(s, st, en)]))
    | _ => fun _ _ => True
def ct_Net_lane (K : PySem.W.Frag) : Ct := Ct4 fun s b c e ka out => ∃ a o d ps es x st en, s = .val (.adr a) ∧ b = .val x ∧ nmOk x ∧ c = .val (.str st) ∧ e = .val (.str en) ∧ es.length < 50000 ∧ ka = NetC K a o d ps es ∧ out = laO K a o d ps es x st en
section
variable {P : Program} {w : World} {K : PySem.W.Frag} {mg : Str → Option Value} {base : Heap}
theorem ok_Net_lane (T : Tx K mg) (F_is_name : Fn P w K mg base 4 (He.ga K "is_name") ["word"] (ct_is_name K)) (Z_BadName : Xn P w K mg base (He.ga K "BadName") "name") (Z_NameTaken : Xn P w K mg base (He.ga K "NameTaken") "name") (Z_NoPost : Xn P w K mg base (He.ga K "NoPost") "name") : Fn P w K mg base 6 (He.ma K (He.ga K "Net") "lane") ["self", "name", "start", "end"] (ct_Net_lane K) := by
  obtain ⟨fd, F⟩ := T.d_Net_lane
  refine fn_ok F sc_Net_lane (fun _ _ _ _ _ _ us hl => match us, hl with | [_, _, _, _], _ => rfl) ct4_len (fun cdv A outer s H E hr => ⟨_, (pss_cons (ps_if (pt_not (pt_val (pe_call (F_is_name.up (by decide)).ok hr rfl T.g_is_name.1 T.g_is_name.2 (F_is_name.up (by decide)).bn .nil (pass_own rfl rfl rfl rfl) (pa_cons (pv 1) pa_nil))))
      (pss_one (ps_raise rfl (takes_of rfl rfl rfl rfl) (pmk_oex Z_BadName.xc.oex Z_BadName.all.1 Z_BadName.all.2.1 Z_BadName.all.2.2.1 (hr.mono (by decide)) Z_BadName.all.2.2.2 .nil passes_no rfl T.g_BadName.1 (pa_cons (pv 1) pa_nil))))
      pss_nil)
      (pss_cons (ps_if (pt_cmp (pc_din (hu1 hr) (pv 1) (pe_fld (pv 0) rfl)) (by with_unfolding_all rfl))
      (pss_one (ps_raise rfl (takes_of rfl rfl rfl rfl) (pmk_oex Z_NameTaken.xc.oex Z_NameTaken.all.1 Z_NameTaken.all.2.1 Z_NameTaken.all.2.2.1 (hr.mono (by decide)) Z_NameTaken.all.2.2.2 .nil passes_no rfl T.g_NameTaken.1 (pa_cons (pv 1) pa_nil))))
      pss_nil)
      (pss_cons (ps_for (passes_of rfl) rfl (pi_seq (pe_tup (pa_cons (pv 2) (pa_cons (pv 3) pa_nil)))) (pg_name (i := 4) sc_Net_lane.nd rfl (by first | exact Or.inl rfl | exact Or.inr rfl)) (pss_one (ps_if (pt_cmpR op_niU (pv 4) (pe_fld (pv 0) rfl) (by with_unfolding_all rfl))
      (pss_one (ps_raise rfl (takes_of rfl rfl rfl rfl) (pmk_oex Z_NoPost.xc.oex Z_NoPost.all.1 Z_NoPost.all.2.1 Z_NoPost.all.2.2.1 (hr.mono (by decide)) Z_NoPost.all.2.2.2 .nil passes_no rfl T.g_NoPost.1 (pa_cons (pv 4) pa_nil))))
      pss_nil)))
      (pss_one (ps_dput (hu1 hr) (pe_fld (pv 0) rfl) (pv 1) (pe_tup (pa_cons (pv 2) (pa_cons (pv 3) pa_nil))) rfl))))), fun ws ka out B F0 Q hC hR hX => ?_⟩)
  obtain ⟨s, b, c, e, rfl, a, o, d, ps, es, x, st, en, rfl, rfl, hx, rfl, rfl, hl, rfl, rfl⟩ := hC
  refine q_when (et_not (et_B (ev_callP (ea1 (ev_var rfl)) ⟨_, rfl, x, rfl, hx, rfl, rfl⟩))) (fun hb => g_raise1 hX (ea1 (ev_var rfl)) Z_BadName.xc.oex Z_BadName.no ?_) (fun hb => ?_)
  · rw [Bool.not_eq_true'] at hb
    unfold laO
    rw [if_pos hb]
    exact ⟨rfl, rfl⟩
  rw [Bool.not_eq_false'] at hb
  have hs : ∃ s, x = .str s := by
    cases x with
    | str s => exact ⟨s, rfl⟩
    | _ => cases hb
  obtain ⟨s, rfl⟩ := hs
  have hb' : ¬ isNmD (.str s) = false := by rw [hb]; decide
  have fo : ∀ {ro : Ro}, ro[0]? = some (some (.val (.adr a))) → EvD K (tFld K (tVar 0) "order") ro (NetC K a o d ps es) (.val (.adr o)) (NetC K a o d ps es) := fun h => ev_fld (ev_var h) (.c 0 rfl) T.cl_Net T.na_Net_order rfl
  have fe : ∀ {ro : Ro}, ro[0]? = some (some (.val (.adr a))) → EvD K (tFld K (tVar 0) "ends_by_lane") ro (NetC K a o d ps es) (.val (.adr d)) (NetC K a o d ps es) := fun h => ev_fld (ev_var h) (.c 0 rfl) T.cl_Net T.na_Net_ends_by_lane rfl
  refine q_when (et_B ((ev_din (ev_var rfl) (fe rfl) (.ce 2 rfl)).to (by rw [enD_in]))) (fun hm => g_raise1 hX (ea1 (ev_var rfl)) Z_NameTaken.xc.oex Z_NameTaken.no ?_) (fun hm => ?_)
  · rw [decide_eq_true_eq] at hm
    unfold laO
    rw [if_neg hb']
    show (if s ∈ lnN es then _ else _ : Oc) _ _
    rw [if_pos hm]
    exact ⟨rfl, rfl⟩
  rw [decide_eq_false_iff_not] at hm
  have hO : laO K a o d ps es (.str s) st en = if ¬ st ∈ ps then Xt (He.ga K "NoPost") [("name", .str st)] (NetC K a o d ps es) else if ¬ en ∈ ps then Xt (He.ga K "NoPost") [("name", .str en)] (NetC K a o d ps es)
        else Rt .non (NetC K a o d ps (es ++ [(s, st, en)])) := by
    unfold laO
    rw [if_neg hb']
    show (if s ∈ lnN es then _ else _ : Oc) = _
    rw [if_neg hm]
  rw [hO] at hR hX
  refine q_forn (ei_seq (ev_tup (ds := [.str st, .str en]) (ea2 (ev_var rfl) (ev_var rfl)) (show 2 ≤ 100000 by decide)) .vt) (fun i ro ka' => ∃ v, ro = [some (.val (.adr a)), some (.val (.str s)), some (.val (.str st)), some (.val (.str en)), v] ∧ ka' = NetC K a o d ps es ∧ (0 < i → st ∈ ps) ∧ (1 < i → en ∈ ps)) ⟨none, rfl, rfl, fun z => absurd z (by decide), fun z => absurd z (by decide)⟩ (fun i ro2 ka2 _ => trivial) (fun i w ro2 ka2 ta' hw ⟨v, e1, e2, h1, h2⟩ => ?_) (fun ro2 ka2 ta' ⟨v, e1, e2, h1, h2⟩ _ => ?_)
  · subst e1 e2
    match i, hw with
    | 0, hw =>
      cases hw
      refine g_if (et_test (ev_niL (ev_var rfl) (fo rfl) (.ce 1 rfl))) (fun hm => g_raise1 hX (ea1 (ev_var rfl)) Z_NoPost.xc.oex Z_NoPost.no ?_) (fun hm => g_next (g_jp ⟨_, rfl, rfl, fun _ => ?_, fun z => by omega⟩))
      · rw [Bool.not_eq_true', decide_eq_false_iff_not] at hm
        rw [if_pos hm]
        exact ⟨rfl, rfl⟩
      · rw [Bool.not_eq_false', decide_eq_true_eq] at hm
        exact hm
    | 1, hw =>
      cases hw
      refine g_if (et_test (ev_niL (ev_var rfl) (fo rfl) (.ce 1 rfl))) (fun hm => g_raise1 hX (ea1 (ev_var rfl)) Z_NoPost.xc.oex Z_NoPost.no ?_) (fun hm => g_next (g_jp ⟨_, rfl, rfl, fun _ => h1 (by decide), fun _ => ?_⟩))
      · rw [Bool.not_eq_true', decide_eq_false_iff_not] at hm
        rw [if_neg (fun z => z (h1 (by decide))), if_pos hm]
        exact ⟨rfl, rfl⟩
      · rw [Bool.not_eq_false', decide_eq_true_eq] at hm
        exact hm
    | i + 2, hw => simp at hw
  · subst e1 e2
    have h1 := h1 (show 0 < 2 by decide)
    have h2 := h2 (show 1 < 2 by decide)
    refine g_dput (j := 2) (ev_tup (ds := [.str st, .str en]) (ea2 (ev_var rfl) (ev_var rfl)) (show 2 ≤ 100000 by decide)) (fe rfl) (ev_var rfl) rfl (by rw [enD_len]; omega) (g_end hR ?_)
    rw [if_neg (fun z => z h1), if_neg (fun z => z h2)]
    refine ⟨rfl, ?_⟩
    have := enD_put (r := (s, st, en)) hm
    unfold NetC
    rw [← this]
    rfl
end
def ct_Net_start_of (K : PySem.W.Frag) : Ct := Ct2 fun s b ka out => ∃ ps es l, NetW K ka s ps es ∧ b = .val (.str l) ∧ (lnN es).Nodup ∧ ((∃ r ∈ es, r.1 = l ∧ out = Rt (.str r.2.1) ka) ∨ (¬ l ∈ lnN es ∧ out = Xt (He.ga K "NoLane") [("name", .str l)] ka))
section
variable {P : Program} {w : World} {K : PySem.W.Frag} {mg : Str → Option Value} {base : Heap}
theorem ok_Net_start_of (T : Tx K mg) (Z_NoLane : Xn P w K mg base (He.ga K "NoLane") "name") : Fn P w K mg base 4 (He.ma K (He.ga K "Net") "start_of") ["self", "lane"] (ct_Net_start_of K) := by
  obtain ⟨fd, F⟩ := T.d_Net_start_of
  refine fn_ok F sc_Net_start_of (fun _ _ _ _ _ _ us hl => match us, hl with | [_, _], _ => rfl) ct2_len (fun cdv A outer s H E hr => ⟨_, (pss_cons (ps_if (pt_cmp (pc_dnotin (hu1 hr) (pv 1) (pe_fld (pv 0) rfl)) (by with_unfolding_all rfl))
      (pss_one (ps_raise rfl (takes_of rfl rfl rfl rfl) (pmk_oex Z_NoLane.xc.oex Z_NoLane.all.1 Z_NoLane.all.2.1 Z_NoLane.all.2.2.1 (hr.mono (by decide)) Z_NoLane.all.2.2.2 .nil passes_no rfl T.g_NoLane.1 (pa_cons (pv 1) pa_nil))))
      pss_nil)
      (pss_one (ps_ret (pe_ix ix_seq (pe_dget (hu1 hr) (pe_fld (pv 0) rfl) (pv 1) fun _ _ => rfl) pe_int fun _ _ => rfl)))), fun ws ka out B F0 Q hC hR hX => ?_⟩)
  obtain ⟨s, b, rfl, ps, es, l, h, rfl, hn, ho⟩ := hC
  obtain ⟨x, h1, h2⟩ := h.ends T.cl_Net T.na_Net_ends_by_lane (te := tVar 0) (ro := [some s, some (.val (.str l))]) (ev_var rfl)
  refine q_when (et_B ((ev_dni (ev_var rfl) h1 h2).to (by rw [enD_in]))) (fun hb => ?_) (fun hb => ?_)
  · rw [Bool.not_eq_true', decide_eq_false_iff_not] at hb
    refine g_raise1 hX (ea1 (ev_var rfl)) Z_NoLane.xc.oex Z_NoLane.no ?_
    rcases ho with ⟨r, hr, e, _⟩ | ⟨_, rfl⟩
    · exact absurd (List.mem_map.mpr ⟨r, hr, e⟩) hb
    · exact ⟨rfl, rfl⟩
  · rw [Bool.not_eq_false', decide_eq_true_eq] at hb
    rcases ho with ⟨r, hr, rfl, rfl⟩ | ⟨z, _⟩
    · obtain ⟨i, hi⟩ := List.mem_iff_getElem?.mp hr
      exact g_ret hR (ev_ixV (ev_dgetV (d := lnD r) h1 (ev_var rfl) h2 (enD_get hn hi)) ev_int .vt (atI_nat (j := 0) rfl)) ⟨rfl, rfl⟩
    · exact absurd hb z
end
def ct_Net_end_of (K : PySem.W.Frag) : Ct := Ct2 fun s b ka out => ∃ ps es l, NetW K ka s ps es ∧ b = .val (.str l) ∧ (lnN es).Nodup ∧ ((∃ r ∈ es, r.1 = l ∧ out = Rt (.str r.2.2) ka) ∨ (¬ l ∈ lnN es ∧ out = Xt (He.ga K "NoLane") [("name", .str l)] ka))
section
variable {P : Program} {w : World} {K : PySem.W.Frag} {mg : Str → Option Value} {base : Heap}
theorem ok_Net_end_of (T : Tx K mg) (Z_NoLane : Xn P w K mg base (He.ga K "NoLane") "name") : Fn P w K mg base 4 (He.ma K (He.ga K "Net") "end_of") ["self", "lane"] (ct_Net_end_of K) := by
  obtain ⟨fd, F⟩ := T.d_Net_end_of
  refine fn_ok F sc_Net_end_of (fun _ _ _ _ _ _ us hl => match us, hl with | [_, _], _ => rfl) ct2_len (fun cdv A outer s H E hr => ⟨_, (pss_cons (ps_if (pt_cmp (pc_dnotin (hu1 hr) (pv 1) (pe_fld (pv 0) rfl)) (by with_unfolding_all rfl))
      (pss_one (ps_raise rfl (takes_of rfl rfl rfl rfl) (pmk_oex Z_NoLane.xc.oex Z_NoLane.all.1 Z_NoLane.all.2.1 Z_NoLane.all.2.2.1 (hr.mono (by decide)) Z_NoLane.all.2.2.2 .nil passes_no rfl T.g_NoLane.1 (pa_cons (pv 1) pa_nil))))
      pss_nil)
      (pss_one (ps_ret (pe_ix ix_seq (pe_dget (hu1 hr) (pe_fld (pv 0) rfl) (pv 1) fun _ _ => rfl) pe_int fun _ _ => rfl)))), fun ws ka out B F0 Q hC hR hX => ?_⟩)
  obtain ⟨s, b, rfl, ps, es, l, h, rfl, hn, ho⟩ := hC
  obtain ⟨x, h1, h2⟩ := h.ends T.cl_Net T.na_Net_ends_by_lane (te := tVar 0) (ro := [some s, some (.val (.str l))]) (ev_var rfl)
  refine q_when (et_B ((ev_dni (ev_var rfl) h1 h2).to (by rw [enD_in]))) (fun hb => ?_) (fun hb => ?_)
  · rw [Bool.not_eq_true', decide_eq_false_iff_not] at hb
    refine g_raise1 hX (ea1 (ev_var rfl)) Z_NoLane.xc.oex Z_NoLane.no ?_
    rcases ho with ⟨r, hr, e, _⟩ | ⟨_, rfl⟩
    · exact absurd (List.mem_map.mpr ⟨r, hr, e⟩) hb
    · exact ⟨rfl, rfl⟩
  · rw [Bool.not_eq_false', decide_eq_true_eq] at hb
    rcases ho with ⟨r, hr, rfl, rfl⟩ | ⟨z, _⟩
    · obtain ⟨i, hi⟩ := List.mem_iff_getElem?.mp hr
      exact g_ret hR (ev_ixV (ev_dgetV (d := lnD r) h1 (ev_var rfl) h2 (enD_get hn hi)) ev_int .vt (atI_nat (j := 1) rfl)) ⟨rfl, rfl⟩
    · exact absurd hb z
end
def ct_Net_copy (K : PySem.W.Frag) : Ct := Ct1 fun s ka out => ∃ ps es, s = .val (NetD K ps es) ∧ ps.length ≤ 50000 ∧ es.length ≤ 50000 ∧ (lnN es).Nodup ∧ ka = [] ∧ out = fun o' k => ∃ a o d, o' = .ret (.adr a) ∧ k = NetC K a o d ps es
section
variable {P : Program} {w : World} {K : PySem.W.Frag} {mg : Str → Option Value} {base : Heap}
theorem ok_Net_copy (T : Tx K mg) (F_Net___init : FnE P w K mg base 4 (He.ma K (He.ga K "Net") "__init__") ["self", "order", "ends_by_lane"] [.ref (He.dflAt ("Net", some "__init__") 0 K), .non] (ct_Net___init K)) : Fn P w K mg base 6 (He.ma K (He.ga K "Net") "copy") ["self"] (ct_Net_copy K) := by
  obtain ⟨fd, F⟩ := T.d_Net_copy
  refine fn_ok F sc_Net_copy (fun _ _ _ _ _ _ us hl => match us, hl with | [_], _ => rfl) ct1_len (fun cdv A outer s H E hr => ⟨_, (pss_one (ps_ret (pe_make T.mk_Net (F_Net___init.a.up (by decide)).ok hr rfl T.g_Net.1 (F_Net___init.a.up (by decide)).bn .nil (pass_own rfl rfl rfl rfl) (pa_cons (pe_fld (pv 0) rfl) (pa_cons (pe_fld (pv 0) rfl) pa_nil))))), fun ws ka out B F0 Q hC hR hX => ?_⟩)
  obtain ⟨s, rfl, ps, es, rfl, hl, hel, hn, rfl, rfl⟩ := hC
  refine g_retE (Q := fun w k => ∃ a o d, w = .val (.adr a) ∧ k = NetC K a o d ps es) hR (evr_make (wd := []) (k1 := []) (ea2 (ev_fld (ev_var rfl) .v T.cl_Net T.na_Net_order rfl) (ev_fld (ev_var rfl) .v T.cl_Net T.na_Net_ends_by_lane rfl)) dv_nil (fun a => ⟨_, ⟨_, _, _, rfl, a, false, false, ps, es, rfl, rfl, .vl, hl, hel, hn, .inr rfl, rfl⟩, fun o k ⟨o2, d, e1, e2⟩ => ⟨e1, a, o2, d, rfl, e2⟩⟩)) (fun w k ⟨a, o, d, e1, e2⟩ => ⟨.adr a, e1, a, o, d, rfl, e2⟩)
end
/-- a round, its lanes -/
abbrev RD (K : PySem.W.Frag) (ds : List D) : D := .ins (He.ga K "Round") [("line", .tup ds)]
structure RdOk (xs : List Str) : Prop where
  ne : xs ≠ []
  len : xs.length ≤ 50000
  nm : ∀ s ∈ xs, isNm s = true
theorem RdOk.ok {xs : List Str} (h : RdOk xs) : stD xs ≠ [] ∧ (∀ d ∈ stD xs, nmOk d) ∧ ∀ d ∈ stD xs, isNmD d = true := by
  refine ⟨fun z => h.ne (List.map_eq_nil_iff.mp z), fun d hd => ?_, fun d hd => ?_⟩
  · obtain ⟨s, hs, rfl⟩ := List.mem_map.mp hd
    exact Nat.le_trans (isNm_len (h.nm s hs)) (by decide)
  · obtain ⟨s, hs, rfl⟩ := List.mem_map.mp hd
    exact h.nm s hs
def ct_Round___init (K : PySem.W.Frag) : Ct := Ct2 fun s a ka out => ∃ p k0 t xs b, s = .val (.adr p) ∧ ka = k0 ++ [(p, .ins (He.ga K "Round") [])] ∧ Lk k0 a t (stD xs) b ∧ (t = true → b = false) ∧ SqF b (stD xs) ∧ RdOk xs ∧ out = Rt .non (k0 ++ [(p, .ins (He.ga K "Round") [("line", .tup (stD xs))])])
/-- Round(..) of names -/
theorem ev_round {K : PySem.W.Frag} {ro : Ro} {ka k1 : Cells} {te : TE} {w : W} {t b : Bool} {xs : List Str} {E : XK} (h : EvD K te ro ka w k1) (l : Lk k1 w t (stD xs) b) (ht : t = true → b = false) (hf : SqF b (stD xs)) (hx : RdOk xs) :
    EvD K (tMake (He.ga K "Round") (spC K (ct_Round___init K)) [] E (tCons te tNil)) ro ka (.val (RD K (stD xs))) k1 :=
  (evn_make (ea1 h) fun a => ⟨_, ⟨_, _, rfl, a, k1, t, xs, b, rfl, rfl, l, ht, hf, hx, rfl⟩, fun _ _ z => z⟩).ins
section
variable {P : Program} {w : World} {K : PySem.W.Frag} {mg : Str → Option Value} {base : Heap}
theorem ok_Round___init (T : Tx K mg) (F_check_lanes : Fn P w K mg base 6 (He.ga K "check_lanes") ["lanes"] (ct_check_lanes K)) : Fn P w K mg base 8 (He.ma K (He.ga K "Round") "__init__") ["self", "lanes"] (ct_Round___init K) := by
  obtain ⟨fd, F⟩ := T.d_Round___init
  refine fn_ok F sc_Round___init (fun _ _ _ _ _ _ us hl => match us, hl with | [_, _], _ => rfl) ct2_len (fun cdv A outer s H E hr => ⟨_, (pss_cons (ps_expr (pe_call (F_check_lanes.up (by decide)).ok hr rfl T.g_check_lanes.1 T.g_check_lanes.2 (F_check_lanes.up (by decide)).bn .nil (pass_own rfl rfl rfl rfl) (pa_cons (pv 1) pa_nil)))
      (pss_one (ps_fld (pv 0) (pe_callTy call_tupU rfl T.n_tuple (by decide +kernel) (pa_cons (pv 1) pa_nil)) rfl))), fun ws ka out B F0 Q hC hR hX => ?_⟩)
  obtain ⟨s1, a, rfl, p, k0, t, xs, b, rfl, rfl, l, ht, hf, hx, rfl⟩ := hC
  obtain ⟨h1, h2, h3⟩ := hx.ok
  refine q_drop (ev_callA (k2 := k0 ++ [(p, .ins (He.ga K "Round") [])]) (d := .non) (ea1 (ev_var rfl)) ⟨_, rfl, t, _, b, l.app, hf, h2, (ck_ok h1 h3).symm⟩) ?_
  refine g_fld (ev_cb (ea1 (ev_var rfl)) (rc_tup l.app ht hf)) (ev_var rfl) (get_last k0 _) T.cl_Round T.na_Round_line (by decide) ?_
  rw [set_last]
  exact g_end hR ⟨rfl, rfl⟩
end
def ct_Round_lanes (K : PySem.W.Frag) : Ct := Ct1 fun s ka out => ∃ ds, s = .val (RD K ds) ∧ ka = [] ∧ out = Rt (.tup ds) []
section
variable {P : Program} {w : World} {K : PySem.W.Frag} {mg : Str → Option Value} {base : Heap}
theorem ok_Round_lanes (T : Tx K mg) : Fn P w K mg base 4 (pga K (He.ga K "Round") "lanes") ["self"] (ct_Round_lanes K) := by
  obtain ⟨fd, F⟩ := T.d_Round_lanes
  refine fn_ok F sc_Round_lanes (fun _ _ _ _ _ _ us hl => match us, hl with | [_], _ => rfl) ct1_len (fun cdv A outer s H E hr => ⟨_, (pss_one (ps_ret (pe_fld (pv 0) rfl))), fun ws ka out B F0 Q hC hR hX => ?_⟩)
  obtain ⟨s1, rfl, ds, rfl, rfl, rfl⟩ := hC
  exact g_ret hR (ev_fld (ev_var rfl) .v T.cl_Round T.na_Round_line lk1) ⟨rfl, rfl⟩
end
/-- the word is its first l signs over and over -/
def perOk (xs : List Str) (l : Nat) : Bool := decide ((List.replicate (xs.length / l) (xs.take l)).flatten = xs)
/-- the least such l -/
def rootL (xs : List Str) : Nat := (((List.range xs.length).map (· + 1)).find? (perOk xs)).getD xs.length
theorem perOk_all {xs : List Str} (h : xs ≠ []) : perOk xs xs.length = true := by
  unfold perOk
  have hp : 0 < xs.length := List.length_pos_iff.mpr h
  rw [Nat.div_self hp, List.take_length]
  simp
theorem rootL_at {xs : List Str} {i : Nat} (h : ∀ j, j < i → perOk xs (j + 1) = false) (hi : perOk xs (i + 1) = true) (hl : i < xs.length) : rootL xs = i + 1 := by
  unfold rootL
  rw [find_first (p := perOk xs) (i := i) (d := i + 1) (fun e he => ?_) (by rw [List.getElem?_map, List.getElem?_range hl]; rfl) hi]
  · rfl
  · rw [← List.map_take] at he
    obtain ⟨j, hj, rfl⟩ := List.mem_map.mp he
    rw [List.take_range] at hj
    exact h j (by have := List.mem_range.mp hj; omega)
theorem perOk_mod {xs : List Str} {l : Nat} (h : perOk xs l = true) (h0 : 0 < l) (h1 : l ≤ xs.length) : xs.length % l = 0 := by
  have e := congrArg List.length (of_decide_eq_true h)
  rw [List.length_flatten, List.map_replicate, List.sum_replicate_nat, List.length_take, Nat.min_eq_left h1] at e
  have := Nat.div_add_mod xs.length l
  rw [Nat.mul_comm] at this
  omega
theorem RdOk.take {xs : List Str} (h : RdOk xs) {n : Nat} (h1 : 1 ≤ n) : RdOk (xs.take n) := by
  have hp : 0 < xs.length := List.length_pos_iff.mpr h.ne
  refine ⟨fun z => ?_, Nat.le_trans (by rw [List.length_take]; exact Nat.min_le_right _ _) h.len, fun s hs => h.nm s (List.mem_of_mem_take hs)⟩
  have := congrArg List.length z
  rw [List.length_take, List.length_nil] at this
  omega
def ct_Round_root (K : PySem.W.Frag) : Ct := Ct1 fun s ka out => ∃ xs, s = .val (RD K (stD xs)) ∧ RdOk xs ∧ xs.length ≤ 1000 ∧ ka = [] ∧ out = Rt (.tup [RD K (stD (xs.take (rootL xs))), .int ((xs.length / rootL xs : Nat) : Int)]) []
section
variable {P : Program} {w : World} {K : PySem.W.Frag} {mg : Str → Option Value} {base : Heap}
theorem ok_Round_root (T : Tx K mg) (F_Round___init : Fn P w K mg base 8 (He.ma K (He.ga K "Round") "__init__") ["self", "lanes"] (ct_Round___init K)) : Fn P w K mg base 10 (He.ma K (He.ga K "Round") "root") ["self"] (ct_Round_root K) := by
  obtain ⟨fd, F⟩ := T.d_Round_root
  refine fn_ok F sc_Round_root (fun _ _ _ _ _ _ us hl => match us, hl with | [_], _ => rfl) ct1_len (fun cdv A outer s H E hr => ⟨_, (pss_cons (ps_set (i := 1) sc_Round_root.nd rfl (by first | exact Or.inl rfl | exact Or.inr rfl) (pe_callB call_lenU rfl T.n_len (by decide +kernel) (pa_cons (pe_fld (pv 0) rfl) pa_nil)))
      (pss_cons (ps_set (i := 2) sc_Round_root.nd rfl (by first | exact Or.inl rfl | exact Or.inr rfl) pe_int)
      (pss_cons (ps_while (passes_of rfl) (PW.pt (pw_or (pt_cmpR (op_neP (by have := (hr).units; exact this)) (pe_op op_mod (pv 1) (pv 2)) pe_int (nomark _)) (pw_or1 (pt_cmpR (op_neP (by have := (hr).units; exact this)) (pe_op op_mulV (pe_slice sl_U (pe_fld (pv 0) rfl) po_none (po_some (pv 2))) (pe_op op_fdiv (pv 1) (pv 2))) (pe_fld (pv 0) rfl) (nomark _))))) (pss_one (ps_aug (i := 2) sc_Round_root.nd rfl (by first | exact Or.inl rfl | exact Or.inr rfl) pe_int ip_add)))
      (pss_one (ps_ret (pe_tup (pa_cons (pe_make T.mk_Round (F_Round___init.up (by decide)).ok hr rfl T.g_Round.1 (F_Round___init.up (by decide)).bn .nil (pass_own rfl rfl rfl rfl) (pa_cons (pe_slice sl_U (pe_fld (pv 0) rfl) po_none (po_some (pv 2))) pa_nil)) (pa_cons (pe_op op_fdiv (pv 1) (pv 2)) pa_nil)))))))), fun ws ka out B F0 Q hC hR hX => ?_⟩)
  obtain ⟨s1, rfl, xs, rfl, hx, hl, rfl, rfl⟩ := hC
  have hp : 0 < xs.length := List.length_pos_iff.mpr hx.ne
  have line : ∀ {ro : Ro} {k : Cells}, ro[0]? = some (some (.val (RD K (stD xs)))) → EvD K (tFld K (tVar 0) "line") ro k (.val (.tup (stD xs))) k := fun h => ev_fld (ev_var h) .v T.cl_Round T.na_Round_line lk1
  refine q_asg ((ev_len (line rfl) .vt).to (w' := .val (.int xs.length)) (by rw [stD_len])) ?_
  refine q_asg ev_int ?_
  have hcut : ∀ i : Nat, cutD (stD xs) none (some ((i + 1 : Nat) : Int)) = stD (xs.take (i + 1)) := fun i => by
    rw [cut_to' (by omega), stD_take, Int.toNat_natCast]
  have quo : ∀ {ro : Ro} {k : Cells} (i : Nat), i < xs.length → ro[1]? = some (some (.val (.int xs.length))) → ro[2]? = some (some (.val (.int ((i + 1 : Nat) : Int)))) → EvD K (tOp rDivI (tVar 1) (tVar 2)) ro k (.val (.int ((xs.length / (i + 1) : Nat) : Int))) k := fun i hi h1 h2 => (ev_divI (ev_var h1) (ev_var h2) ⟨by omega, by omega⟩).to (by rw [Int.natCast_ediv])
  refine q_while (fun m ro ka => ∃ i : Nat, m = xs.length - i ∧ ro = [some (.val (RD K (stD xs))), some (.val (.int xs.length)), some (.val (.int ((i + 1 : Nat) : Int)))] ∧ ka = [] ∧ i < xs.length ∧ ∀ j, j < i → perOk xs (j + 1) = false) xs.length ⟨0, rfl, rfl, rfl, hp, fun j h => by omega⟩ (fun m ro2 ka2 ⟨i, em, e1, e2, hi, hno⟩ => ⟨!perOk xs (i + 1), [], ?_, fun hb => ?_, fun hb => ?_⟩)
  · subst e1 e2
    have hmod : EvT K (tTest (tOp (rEqP K true) (tOp rModI (tVar 1) (tVar 2)) (tC (.int 0)))) [some (.val (RD K (stD xs))), some (.val (.int xs.length)), some (.val (.int ((i + 1 : Nat) : Int)))] [] (!(((xs.length : Int) % ((i + 1 : Nat) : Int)) == 0)) [] := et_test (ev_neI (ev_modI (ev_var rfl) (ev_var rfl) (by omega)) ev_int)
    by_cases h0 : xs.length % (i + 1) = 0
    · have e0 : (!(((xs.length : Int) % ((i + 1 : Nat) : Int)) == 0)) = false := by
        rw [← Int.natCast_emod, h0]
        rfl
      have hq : xs.length / (i + 1) ≤ 1000 := Nat.le_trans (Nat.div_le_self _ _) hl
      have hq1 : 1 ≤ xs.length / (i + 1) := Nat.div_pos (by omega) (by omega)
      refine et_or0 (hmod.to e0) ((et_test (ev_ne (ev_repT (ev_slT (line rfl) eo_none (eo_some (ev_var rfl))) (quo i hi rfl rfl) ?_ (by omega) (by omega) ?_) (line rfl) .v .v ?_ ?_)).to ?_)
      · rw [hcut]
        exact (hx.take (n := i + 1) (by omega)).ok.1
      · rw [hcut, stD_len, List.length_take]
        omega
      · rw [hcut, stD_rep]
        exact pl_stD _ 60
      · exact pl_stD xs 60
      · rw [hcut, stD_rep, Int.toNat_natCast]
        exact congrArg (fun z => !z) (eqL_stD _ _)
    · have e0 : (!(((xs.length : Int) % ((i + 1 : Nat) : Int)) == 0)) = true := by
        rw [← Int.natCast_emod]
        have : ¬ ((xs.length % (i + 1) : Nat) : Int) = 0 := by omega
        rw [beq_eq_false_iff_ne.mpr this]
        rfl
      have ep : perOk xs (i + 1) = false := by
        cases q : perOk xs (i + 1) with
        | false => rfl
        | true => exact absurd (perOk_mod q (by omega) (by omega)) h0
      rw [ep]
      exact et_or1 (hmod.to e0)
  · subst e1 e2
    have hb2 : perOk xs (i + 1) = false := by simpa using hb
    have hlt : i + 1 < xs.length := by
      rcases Nat.lt_or_eq_of_le (show i + 1 ≤ xs.length by omega) with h | h
      · exact h
      · rw [h, perOk_all hx.ne] at hb2
        cases hb2
    refine g_augI (z := ((i + 1 + 1 : Nat) : Int)) rfl ev_int (fun H Q q => ⟨_, _, rfl, rfl, by push_cast at q ⊢; exact q⟩) (g_jp ⟨xs.length - (i + 1), by omega, i + 1, rfl, rfl, rfl, hlt, fun j hj => ?_⟩)
    rcases Nat.lt_succ_iff_lt_or_eq.mp hj with hj | rfl
    · exact hno j hj
    · exact hb2
  · subst e1 e2
    have hb2 : perOk xs (i + 1) = true := by simpa using hb
    refine g_ret hR (ev_tup (ds := [RD K (stD (xs.take (i + 1))), .int ((xs.length / (i + 1) : Nat) : Int)]) (ea2 (ev_round (xs := xs.take (i + 1)) ((ev_slT (line rfl) eo_none (eo_some (ev_var rfl))).to (by rw [hcut])) .vt (fun _ => rfl) (.inl rfl) (hx.take (by omega))) (quo i hi rfl rfl)) (show 2 ≤ 100000 by decide)) ?_
    rw [rootL_at hno hb2 hi]
    exact ⟨rfl, rfl⟩
end
theorem ev_lenK {K : PySem.W.Frag} {ro : Ro} {ka k1 : Cells} {te : TE} {p : Addr} {ns : List Int} (h : EvD K te ro ka (.val (.adr p)) k1) (hk : ∀ H, SqL K H p (ns.map V.int)) : EvD K (tCB (rLenU K) (tCons te tNil)) ro ka (.val (.int ns.length)) k1 := fun B F0 ta sg H Q e q => h B F0 ta sg H _ e fun v H1 e1 => .inl ⟨p, ns.map V.int, by rw [e1.tm_adr List.mem_cons_self], .inl (hk H1), by
  rw [List.length_map]
  exact q _ _ (e1.pop.push_imm fun _ => rfl)⟩
theorem ev_ixK {K : PySem.W.Frag} {ro : Ro} {ka k1 k2 : Cells} {te tf : TE} {p : Addr} {ns : List Int} {i : Nat} {z : Int} (h : EvD K te ro ka (.val (.adr p)) k1) (h2 : EvD K tf ro k1 (.val (.int i)) k2) (hk : ∀ H, SqL K H p (ns.map V.int)) (hz : ns[i]? = some z) : EvD K (tOp (rIx K) te tf) ro ka (.val (.int z)) k2 := ev_op h h2 fun B F0 ro ta sg H u v Q e h1 h2 q =>
  .inl ⟨p, ns.map V.int, i, .int z, e.tm_adr h1, e.tm_int h2, hk H, atI_nat (by rw [List.getElem?_map, hz]; rfl), q _ _ (e.push_imm fun _ => rfl)⟩
def ct_law_cell (K : PySem.W.Frag) : Ct := Ct2 fun a b ka out => ∃ ns, ∃ k : Nat, Scr K a ns ∧ b = .val (.int k) ∧ ka = [] ∧ out = Rt (.int (ns.getD k 0)) []
section
variable {P : Program} {w : World} {K : PySem.W.Frag} {mg : Str → Option Value} {base : Heap}
theorem ok_law_cell (T : Tx K mg) : Fn P w K mg base 4 (He.ga K "_law_cell") ["_law_script", "_law_k"] (ct_law_cell K) := by
  obtain ⟨fd, F⟩ := T.d_law_cell
  refine fn_ok F sc_law_cell (fun _ _ _ _ _ _ us hl => match us, hl with | [_, _], _ => rfl) ct2_len (fun cdv A outer s H E hr => ⟨_, (pss_cons (ps_if (pt_cmpR op_lt (pv 1) (pe_callB call_lenU rfl T.n_len (by decide +kernel) (pa_cons (pv 0) pa_nil)) (nomark _))
      (pss_one (ps_ret (pe_ix ix_seq (pv 0) (pv 1) fun _ _ => rfl)))
      pss_nil)
      (pss_one (ps_ret pe_int))), fun ws ka out B F0 Q hC hR hX => ?_⟩)
  obtain ⟨a, b, rfl, ns, k, hs, rfl, rfl, rfl⟩ := hC
  have out0 : ¬ k < ns.length → ns.getD k 0 = 0 := fun h => by
    rw [List.getD_eq_getElem?_getD, List.getElem?_eq_none (by omega)]
    rfl
  have in0 : k < ns.length → ns[k]? = some (ns.getD k 0) := fun h => by
    rw [List.getD_eq_getElem?_getD, List.getElem?_eq_getElem h]
    rfl
  rcases hs with rfl | ⟨p, rfl, hk⟩
  · have hl : (inD ns).length = ns.length := List.length_map ..
    refine q_when (et_test (ev_lt (ev_var rfl) (ev_len (ev_var rfl) .vl))) (fun hb => g_ret hR (ev_ixV (d := .int (ns.getD k 0)) (ev_var rfl) (ev_var rfl) .vl (atI_nat ?_)) ⟨rfl, rfl⟩) (fun hb => g_ret hR ev_int ⟨?_, rfl⟩)
    · rw [decide_eq_true_eq, hl] at hb
      unfold inD
      rw [List.getElem?_map, in0 (by omega)]
      rfl
    · rw [decide_eq_false_iff_not, hl] at hb
      rw [out0 (by omega)]
  · refine q_when (et_test (ev_lt (ev_var rfl) (ev_lenK (ev_var rfl) hk))) (fun hb => g_ret hR (ev_ixK (ev_var rfl) (ev_var rfl) hk (in0 ?_)) ⟨rfl, rfl⟩) (fun hb => g_ret hR ev_int ⟨?_, rfl⟩)
    · rw [decide_eq_true_eq] at hb
      omega
    · rw [decide_eq_false_iff_not] at hb
      rw [out0 (by omega)]
end
def ct_law_pool (K : PySem.W.Frag) : Ct := Ct1 fun a ka out => ∃ z, a = .val (.int z) ∧ ka = [] ∧ out = Nt (.lst (plOf z).ds) []
section
variable {P : Program} {w : World} {K : PySem.W.Frag} {mg : Str → Option Value} {base : Heap}
theorem ok_law_pool (T : Tx K mg) : Fn P w K mg base 4 (He.ga K "_law_pool") ["_law_cell_here"] (ct_law_pool K) := by
  obtain ⟨fd, F⟩ := T.d_law_pool
  refine fn_ok F sc_law_pool (fun _ _ _ _ _ _ us hl => match us, hl with | [_], _ => rfl) ct1_len (fun cdv A outer s H E hr => ⟨_, (pss_cons (ps_set (i := 1) sc_law_pool.nd rfl (by first | exact Or.inl rfl | exact Or.inr rfl) (pe_op op_mulU pe_int (pv 0)))
      (pss_cons (ps_if (pt_cmpR op_lt (pv 0) pe_int (nomark _))
      (pss_one (ps_set (i := 1) sc_law_pool.nd rfl (by first | exact Or.inl rfl | exact Or.inr rfl) (pe_op op_sub (pe_op op_sub pe_int (pe_op op_mulU pe_int (pv 0))) pe_int)))
      pss_nil)
      (pss_cons (ps_if (pt_cmpR op_ge (pv 1) (pe_op op_pow pe_int pe_int) (nomark _))
      (pss_one (ps_ret (pe_lst (pa_cons (pv 1) (pa_cons (pe_op op_mod (pe_callTy call_intU rfl T.n_int (by decide +kernel) (pa_cons (pv 1) pa_nil)) pe_int) (pa_cons pe_int pa_nil))))))
      pss_nil)
      (pss_one (ps_ret (pe_lst (pa_cons pe_int (pa_cons (pe_op op_mod (pe_callTy call_intU rfl T.n_int (by decide +kernel) (pa_cons (pv 1) pa_nil)) pe_int) (pa_cons pe_int pa_nil))))))))), fun ws ka out B F0 Q hC hR hX => ?_⟩)
  obtain ⟨a, rfl, z, rfl, rfl, rfl⟩ := hC
  refine q_asg (ev_mulL ev_int (ev_var rfl)) ?_
  refine q_whenI (fun ro ka => ro = [some (.val (.int z)), some (.val (.int (fldZ z)))] ∧ ka = []) (et_test (ev_lt (ev_var rfl) ev_int)) (fun hb nx k => g_asg (ev_subI (ev_subI ev_int (ev_mulL ev_int (ev_var rfl))) ev_int) (k _ _ ⟨?_, rfl⟩)) (fun hb => ⟨?_, rfl⟩) ?_
  · rw [decide_eq_true_eq] at hb
    unfold fldZ
    rw [if_pos hb]
    rfl
  · rw [decide_eq_false_iff_not] at hb
    unfold fldZ
    rw [if_neg hb]
    rfl
  · rintro ro2 ka2 ⟨rfl, rfl⟩
    refine q_when (et_test (ev_ge (ev_var rfl) (ev_powI ev_int ev_int ⟨by decide, by decide, by decide⟩))) (fun hb => g_retC hR (evn_lst (ds := (plOf z).ds) (ea3 (ev_var rfl) (ev_modI (ev_int1 (ev_var rfl)) ev_int (by decide)) ev_int |>.to ?_) (show 3 ≤ 100000 by decide)) (fun a => ⟨a, rfl, rfl⟩)) (fun hb => g_retC hR (evn_lst (ds := (plOf z).ds) (ea3 ev_int (ev_modI (ev_int1 (ev_var rfl)) ev_int (by decide)) ev_int |>.to ?_) (show 3 ≤ 100000 by decide)) (fun a => ⟨a, rfl, rfl⟩))
    · rw [decide_eq_true_eq] at hb
      have hb : fldZ z ≥ 10 ^ 18 := hb
      unfold plOf
      rw [if_pos hb]
      rfl
    · rw [decide_eq_false_iff_not] at hb
      have hb : ¬ fldZ z ≥ 10 ^ 18 := hb
      unfold plOf
      rw [if_neg hb]
      rfl
end
def ct_law_take (K : PySem.W.Frag) : Ct := Ct2 fun s b ka out => ∃ a p m, s = .val (.adr a) ∧ b = .val (.int m) ∧ ka = [(a, .lst (Pl.ds p))] ∧ p.Ok 1000000 ∧ 0 < m ∧ m ≤ 100000000 ∧ out = Rt (.int (tk p m).1) [(a, .lst (tk p m).2.ds)]
/-- a draw from the pool that is the first cell -/
theorem ev_take {K : PySem.W.Frag} {ro : Ro} {ka kr : Cells} {te tf : TE} {a : Addr} {p : Pl} {m : Int} {E : XK} {k1 : Cells} (h : EvD K te ro ka (.val (.adr a)) k1) (h2 : EvD K tf ro k1 (.val (.int m)) ((a, .lst p.ds) :: kr)) (hp : p.Ok 1000000) (h0 : 0 < m) (h1 : m ≤ 100000000) :
    EvD K (tCall (spC K (ct_law_take K)) [] E (tCons te (tCons tf tNil))) ro ka (.val (.int (tk p m).1)) ((a, .lst (tk p m).2.ds) :: kr) := ev_call1 (ea2 h h2) ⟨_, _, rfl, a, p, m, rfl, rfl, rfl, hp, h0, h1, rfl⟩
/-- a thing drawn out of texts, the pool behind it -/
def drawS (p : Pl) (ss : List Str) : Str := ss.getD (tk p ((stD ss).length : Nat)).1.toNat ""
def drawP (p : Pl) (ss : List Str) : Pl := (tk p ((stD ss).length : Nat)).2
theorem draw_lt {ss : List Str} (h : ss ≠ []) (p : Pl) : (0 : Int) < ((stD ss).length : Nat) ∧ 0 ≤ (tk p ((stD ss).length : Nat)).1 ∧ (tk p ((stD ss).length : Nat)).1.toNat < ss.length := by
  have hp := List.length_pos_iff.mpr h
  have hL : (0 : Int) < ((stD ss).length : Nat) := by rw [stD_len]; omega
  have t1 := tk_lt p hL
  refine ⟨hL, t1.1, ?_⟩
  have h1 := t1.1
  have h2 := t1.2
  rw [stD_len] at h1 h2 ⊢
  omega
theorem draw_eq {ss : List Str} (h : ss ≠ []) (p : Pl) : ss[(tk p ((stD ss).length : Nat)).1.toNat]? = some (drawS p ss) := by
  unfold drawS
  rw [List.getD_eq_getElem?_getD, List.getElem?_eq_getElem (draw_lt h p).2.2]
  rfl
theorem drawS_mem {ss : List Str} (h : ss ≠ []) (p : Pl) : drawS p ss ∈ ss := List.mem_of_getElem? (draw_eq h p)
theorem drawP_ok {ss : List Str} {p : Pl} {n : Int} (hp : p.Ok n) (h : ss ≠ []) : (drawP p ss).Ok (n + 1) := tk_ok hp (draw_lt h p).1
theorem ev_draw {K : PySem.W.Frag} {ro : Ro} {ka kr k0 k1 : Cells} {te tp tl : TE} {a : Addr} {p : Pl} {ss : List Str} {E : XK} (h1 : EvD K te ro ka (.val (.lst (stD ss))) k0) (h2 : EvD K tp ro k0 (.val (.adr a)) k1) (h3 : EvD K tl ro k1 (.val (.lst (stD ss))) ((a, .lst p.ds) :: kr)) (hp : p.Ok 1000000) (h : ss ≠ []) (hl : ss.length ≤ 100000) :
    EvD K (tOp (rIx K) te (tCall (spC K (ct_law_take K)) [] E (tCons tp (tCons (tCB (rLenU K) (tCons tl tNil)) tNil)))) ro ka (.val (.str (drawS p ss))) ((a, .lst (drawP p ss).ds) :: kr) :=
  ev_ixV h1 (ev_take h2 (ev_len h3 .vl) hp (draw_lt h p).1 (by rw [stD_len]; omega)) .vl (atZ (draw_lt h p).2.1 (stD_get (draw_eq h p)))
section
variable {P : Program} {w : World} {K : PySem.W.Frag} {mg : Str → Option Value} {base : Heap}
theorem ok_law_take (T : Tx K mg) : Fn P w K mg base 4 (He.ga K "_law_take") ["_law_pool_here", "_law_many_here"] (ct_law_take K) := by
  obtain ⟨fd, F⟩ := T.d_law_take
  refine fn_ok F sc_law_take (fun _ _ _ _ _ _ us hl => match us, hl with | [_, _], _ => rfl) ct2_len (fun cdv A outer s H E hr => ⟨_, (pss_cons (ps_if (pt_cmpR op_gt (pe_ix ix_seq (pv 0) pe_int fun _ _ => rfl) pe_int (nomark _))
      (pss_cons (ps_set (i := 2) sc_law_take.nd rfl (by first | exact Or.inl rfl | exact Or.inr rfl) (pe_op op_mod (pe_callTy call_intU rfl T.n_int (by decide +kernel) (pa_cons (pe_ix ix_seq (pv 0) pe_int fun _ _ => rfl) pa_nil)) (pv 1)))
      (pss_cons (ps_asg (pe_op op_fdiv (pe_ix ix_seq (pv 0) pe_int fun _ _ => rfl) (pv 1)) (pg_sub (pv 0) pe_int set_list))
      (pss_one (ps_ret (pv 2)))))
      pss_nil)
      (pss_cons (ps_asg (pe_op op_addU (pe_ix ix_seq (pv 0) pe_int fun _ _ => rfl) pe_int) (pg_sub (pv 0) pe_int set_list))
      (pss_cons (ps_set (i := 3) sc_law_take.nd rfl (by first | exact Or.inl rfl | exact Or.inr rfl) (pe_op op_mod (pe_callTy call_intU rfl T.n_int (by decide +kernel) (pa_cons (pe_op op_pow (pe_op op_addU (pe_op op_addU (pe_ix ix_seq (pv 0) pe_int fun _ _ => rfl) (pe_op op_mulU pe_int (pe_ix ix_seq (pv 0) pe_int fun _ _ => rfl))) pe_int) pe_int) pa_nil)) pe_int))
      (pss_one (ps_ret (pe_op op_mod (pe_op op_mod (pe_callTy call_intU rfl T.n_int (by decide +kernel) (pa_cons (pe_op op_mulU (pe_op op_addU (pv 3) (pe_ix ix_seq (pv 0) pe_int fun _ _ => rfl)) pe_int) pa_nil)) pe_int) (pv 1))))))), fun ws ka out B F0 Q hC hR hX => ?_⟩)
  obtain ⟨s1, b, rfl, a, p, m, rfl, rfl, rfl, hp, h0, h1, rfl⟩ := hC
  obtain ⟨p1, p2, p3, p4, p5⟩ := hp
  have i2 : atI (Pl.ds p) 2 = some (.int p.c) := atI_nat (j := 2) rfl
  have i1 : atI (Pl.ds p) 1 = some (.int p.b) := atI_nat (j := 1) rfl
  refine q_when (et_test (ev_gt (ev_ixV (ev_var rfl) ev_int (.ce 0 rfl) at0) ev_int)) (fun hb => ?_) (fun hb => ?_)
  · rw [decide_eq_true_eq] at hb
    refine q_asg (ev_modI (ev_int1 (ev_ixV (ev_var rfl) ev_int (.ce 0 rfl) at0)) (ev_var rfl) h0) ?_
    refine q_seti (j := 0) (ix := 0) (ev_divI (ev_ixV (ev_var rfl) ev_int (.ce 0 rfl) at0) (ev_var rfl) ⟨h0, by omega⟩) (ev_var rfl) ev_int rfl rfl ?_
    refine g_ret hR (ev_var rfl) ?_
    unfold tk
    rw [if_pos hb]
    exact ⟨rfl, rfl⟩
  · rw [decide_eq_false_iff_not] at hb
    refine q_seti (j := 0) (ix := 2) (ev_addI (ev_ixV (ev_var rfl) ev_int (.ce 0 rfl) i2) ev_int) (ev_var rfl) ev_int rfl rfl ?_
    refine q_asg (ev_modI (ev_int1 (ev_powI (i := p.b + 7919 * (p.c + 1) + 104729) (ev_addI (ev_addI (ev_ixV (ev_var rfl) ev_int (.ce 0 rfl) (atI_nat (j := 1) rfl)) (ev_mulL ev_int (ev_ixV (ev_var rfl) ev_int (.ce 0 rfl) (atI_nat (j := 2) rfl)))) ev_int) ev_int ⟨by decide, by decide, ?_⟩)) ev_int (by decide)) ?_
    · omega
    refine g_ret hR (ev_modI (ev_modI (ev_int1 (ev_mulR (ev_addI (ev_var rfl) (ev_ixV (ev_var rfl) ev_int (.ce 0 rfl) (atI_nat (j := 2) rfl))) ev_int)) ev_int (by decide)) (ev_var rfl) h0) ?_
    unfold tk
    rw [if_neg hb]
    exact ⟨rfl, rfl⟩
end
structure WdOk (l : List Nat) (k : Nat) : Prop where
  hd : ∃ c, l.head? = some c ∧ c ∈ letL
  sg : ∀ x ∈ l, x ∈ letL ++ digL
  len : l.length = k
theorem head_take {l : List Nat} {n : Nat} (h : 0 < n) : (l.take n).head? = l.head? := by
  cases l with
  | nil => simp
  | cons c r =>
    cases n with
    | zero => omega
    | succ n => rfl
theorem head_app {l m : List Nat} {c : Nat} (h : l.head? = some c) : (l ++ m).head? = some c := by
  cases l with
  | nil => cases h
  | cons d r => exact h
theorem key_snoc {β : Type} {key : Str → β} {f : Nat → β} {ss : List Str} {x : Str} (h : ∀ j s, ss[j]? = some s → key s = f j) (hx : key x = f ss.length) : ∀ j s, (ss ++ [x])[j]? = some s → key s = f j := fun j s e => by
  rcases Nat.lt_trichotomy j ss.length with q | q | q
  · rw [List.getElem?_append_left q] at e
    exact h j s e
  · subst q
    rw [List.getElem?_append_right (Nat.le_refl _), Nat.sub_self] at e
    cases e
    exact hx
  · rw [List.getElem?_append_right (by omega)] at e
    have := (List.getElem?_eq_some_iff.mp e).1
    rw [List.length_singleton] at this
    omega
theorem key_nd {β : Type} {key : Str → β} {f : Nat → β} {ss : List Str} (h : ∀ j s, ss[j]? = some s → key s = f j) (inj : ∀ i j, i < j → j < ss.length → f i ≠ f j) : ss.Nodup := by
  refine List.pairwise_iff_getElem.mpr fun i j hi hj hij e => inj i j hij hj ?_
  rw [← h i _ (List.getElem?_eq_getElem hi), ← h j _ (List.getElem?_eq_getElem hj), e]
theorem at_get {β : Type} {xs : List β} {i : Int} {x : β} (h0 : 0 ≤ i) (h : atI xs i = some x) : xs[i.toNat]? = some x := by
  unfold atI ixN at h
  rw [if_pos h0] at h
  by_cases q : i < xs.length
  · rw [if_pos q] at h
    exact h
  · rw [if_neg q] at h
    cases h
theorem let_nd : letL.Nodup := by decide
theorem sig_nd : (letL ++ digL).Nodup := by decide
theorem nd_inj {xs : List Nat} (h : xs.Nodup) {i j : Nat} (hi : i < xs.length) (hij : i ≠ j) : xs[i]? ≠ xs[j]? := fun e => by
  rw [List.getElem?_eq_getElem hi] at e
  obtain ⟨hj, e2⟩ := List.getElem?_eq_some_iff.mp e.symm
  exact hij ((List.getElem_inj h).mp e2).symm
theorem nm_put {st : List Nat} {k c p : Nat} (hl : WdOk st k) (hk : k ≤ 7) (hp : p ≤ st.length) (h0 : p = 0 → c ∈ letL) (hc : c ∈ letL ++ digL) : isNm (tx (st.take p ++ [c] ++ st.drop p)) = true := by
  refine nm_of ?_ (fun x hx => ?_) ?_
  · by_cases hp0 : p = 0
    · subst hp0
      exact ⟨c, by simp, h0 rfl⟩
    · obtain ⟨d, h1, h2⟩ := hl.hd
      exact ⟨d, head_app (head_app (by rw [head_take (by omega)]; exact h1)), h2⟩
  · rcases List.mem_append.mp hx with hx | hx
    · rcases List.mem_append.mp hx with hx | hx
      · exact hl.sg x (List.mem_of_mem_take hx)
      · rw [List.mem_singleton.mp hx]; exact hc
    · exact hl.sg x (List.mem_of_mem_drop hx)
  · have := hl.len
    rw [List.length_append, List.length_append, List.length_take, List.length_drop]
    simp
    omega
def ct_law_many (K : PySem.W.Frag) : Ct := Ct2 fun s b ka out => ∃ a p n m, s = .val (.adr a) ∧ b = .val (.int m) ∧ ka = [(a, .lst (Pl.ds p))] ∧ p.Ok n ∧ 0 ≤ n ∧ n ≤ 900000 ∧ 0 ≤ m ∧ m ≤ 26 ∧
  out = fun o k => ∃ ss p', o = .ret (.lst (stD ss)) ∧ k = [(a, .lst (Pl.ds p'))] ∧ p'.Ok (n + 50) ∧ ss.length = m.toNat ∧ (∀ s ∈ ss, isNm s = true) ∧ ss.Nodup
section
variable {P : Program} {w : World} {K : PySem.W.Frag} {mg : Str → Option Value} {base : Heap}
theorem ok_law_many (T : Tx K mg) (F_law_take : Fn P w K mg base 4 (He.ga K "_law_take") ["_law_pool_here", "_law_many_here"] (ct_law_take K)) : Fn P w K mg base 6 (He.ga K "_law_many") ["_law_pool_here", "_law_many_here"] (ct_law_many K) := by
  obtain ⟨fd, F⟩ := T.d_law_many
  refine fn_ok F sc_law_many (fun _ _ _ _ _ _ us hl => match us, hl with | [_, _], _ => rfl) ct2_len (fun cdv A outer s H E hr => ⟨_, (pss_cons (ps_set (i := 2) sc_law_many.nd rfl (by first | exact Or.inl rfl | exact Or.inr rfl) pe_str)
      (pss_cons (ps_set (i := 3) sc_law_many.nd rfl (by first | exact Or.inl rfl | exact Or.inr rfl) (pe_op op_addU (pv 2) pe_str))
      (pss_cons (ps_set (i := 4) sc_law_many.nd rfl (by first | exact Or.inl rfl | exact Or.inr rfl) (pe_ix ix_seq (pv 2) (pe_call (F_law_take.up (by decide)).ok hr rfl T.g_law_take.1 T.g_law_take.2 (F_law_take.up (by decide)).bn .nil (pass_own rfl rfl rfl rfl) (pa_cons (pv 0) (pa_cons pe_int pa_nil))) fun _ _ => rfl))
      (pss_cons (ps_for (passes_of rfl) rfl (pi_range1 rfl T.n_range (pa_cons (pe_call (F_law_take.up (by decide)).ok hr rfl T.g_law_take.1 T.g_law_take.2 (F_law_take.up (by decide)).bn .nil (pass_own rfl rfl rfl rfl) (pa_cons (pv 0) (pa_cons pe_int pa_nil))) pa_nil)) (pg_name (i := 5) sc_law_many.nd rfl (by first | exact Or.inl rfl | exact Or.inr rfl)) (pss_one (ps_set (i := 4) sc_law_many.nd rfl (by first | exact Or.inl rfl | exact Or.inr rfl) (pe_op op_addU (pv 4) (pe_ix ix_seq (pv 3) (pe_call (F_law_take.up (by decide)).ok hr rfl T.g_law_take.1 T.g_law_take.2 (F_law_take.up (by decide)).bn .nil (pass_own rfl rfl rfl rfl) (pa_cons (pv 0) (pa_cons pe_int pa_nil))) fun _ _ => rfl)))))
      (pss_cons (ps_set (i := 6) sc_law_many.nd rfl (by first | exact Or.inl rfl | exact Or.inr rfl) (pe_call (F_law_take.up (by decide)).ok hr rfl T.g_law_take.1 T.g_law_take.2 (F_law_take.up (by decide)).bn .nil (pass_own rfl rfl rfl rfl) (pa_cons (pv 0) (pa_cons (pe_op op_addU (pe_callB call_lenU rfl T.n_len (by decide +kernel) (pa_cons (pv 4) pa_nil)) pe_int) pa_nil))))
      (pss_cons (ps_set (i := 7) sc_law_many.nd rfl (by first | exact Or.inl rfl | exact Or.inr rfl) (pe_ifExp (pt_cmpR (op_eqP (by have := (hr).units; exact this)) (pv 6) pe_int (nomark _)) (pv 2) (pv 3)))
      (pss_cons (ps_set (i := 8) sc_law_many.nd rfl (by first | exact Or.inl rfl | exact Or.inr rfl) (pe_call (F_law_take.up (by decide)).ok hr rfl T.g_law_take.1 T.g_law_take.2 (F_law_take.up (by decide)).bn .nil (pass_own rfl rfl rfl rfl) (pa_cons (pv 0) (pa_cons pe_int pa_nil))))
      (pss_cons (ps_if (pt_cmpR (op_eqP (by have := (hr).units; exact this)) (pe_call (F_law_take.up (by decide)).ok hr rfl T.g_law_take.1 T.g_law_take.2 (F_law_take.up (by decide)).bn .nil (pass_own rfl rfl rfl rfl) (pa_cons (pv 0) (pa_cons pe_int pa_nil))) pe_int (nomark _))
      (pss_one (ps_ret (pe_lc (te := (tOp (rAddU K) (tOp (rIx K) (tVar 2) (tOp rModI (tOp (rAddU K) (tVar 8) (tOp rMulU (tC (.int 3)) (tVar 5))) (tC (.int 26)))) (tSl (rSlU K) (tVar 4) tNoPart (tPart (tCall (spC K (ct_law_take K)) [] (fun _ _ _ => False) (tCons (tVar 0) (tCons (tC (.int 8)) tNil))))))) (tt := tYes) (own := [("_law_k", 5)]) rfl sc_law_many.nd (pi_range1 rfl T.n_range (pa_cons (pv 1) pa_nil)) (blk_ok ["_law_pool_here", "_law_many_here", "_law_letters", "_law_signs", "_law_stem", "_law_k", "_law_place", "_law_told_here", "_law_start", "_law_names", "_law_sign"] (defScope s_law_many) rfl rfl (by decide +kernel)) (fun _ _ _ _ _ => (pg_name (i := 5) sc_law_many.nd rfl (by first | exact Or.inl rfl | exact Or.inr rfl))) (fun _ _ _ _ _ => pts_nil) (fun _ _ _ _ _ => (pe_op op_addU (pe_ix ix_seq (pv 2) (pe_op op_mod (pe_op op_addU (pv 8) (pe_op op_mulU pe_int (pv 5))) pe_int) fun _ _ => rfl) (pe_slice sl_U (pv 4) po_none (po_some (pe_call (F_law_take.up (by decide)).ok hr rfl T.g_law_take.1 T.g_law_take.2 (F_law_take.up (by decide)).bn .nil passes_no (pa_cons (pv 0) (pa_cons pe_int pa_nil))))))))))
      pss_nil)
      (pss_cons (ps_set (i := 9) sc_law_many.nd rfl (by first | exact Or.inl rfl | exact Or.inr rfl) (pe_lst pa_nil))
      (pss_cons (ps_for (passes_of rfl) rfl (pi_range1 rfl T.n_range (pa_cons (pv 1) pa_nil)) (pg_name (i := 5) sc_law_many.nd rfl (by first | exact Or.inl rfl | exact Or.inr rfl)) (pss_cons (ps_set (i := 10) sc_law_many.nd rfl (by first | exact Or.inl rfl | exact Or.inr rfl) (pe_ix ix_seq (pv 7) (pe_op op_mod (pe_op op_addU (pv 8) (pe_op op_mulU pe_int (pv 5))) (pe_callB call_lenU rfl T.n_len (by decide +kernel) (pa_cons (pv 7) pa_nil))) fun _ _ => rfl))
      (pss_one (ps_expr (pe_bm PySem.F.plainAttrs_list PySem.F.slot_list_append PySem.F.type_list_append mt_append (pv 9) (pa_cons (pe_op op_addU (pe_op op_addU (pe_slice sl_U (pv 4) po_none (po_some (pv 6))) (pv 10)) (pe_slice sl_U (pv 4) (po_some (pv 6)) po_none)) pa_nil))))))
      (pss_one (ps_ret (pv 9))))))))))))), fun ws ka out B F0 Q hC hR hX => ?_⟩)
  obtain ⟨s1, b1, rfl, a, p, n, m, rfl, rfl, rfl, hp, hn0, hn, hm0, hm, rfl⟩ := hC
  refine q_asg (ev_str.to (congrArg (fun z => W.val (.str z)) letters_tx)) ?_
  refine q_asg (ev_addT (ev_var rfl) (ev_str.to (congrArg (fun z => W.val (.str z)) digits_tx)) (by decide)) ?_
  have t0 := tk_lt p (m := 26) (by decide)
  obtain ⟨c0, hc0, hm1⟩ := sgn_at (l := letL) t0.1 (by rw [let_len]; exact t0.2)
  have hp1 : (tk p 26).2.Ok (n + 1) := tk_ok hp (by decide)
  refine q_asg (ev_ixT (ev_var rfl) (ev_take (kr := []) (ev_var rfl) ev_int (hp.up (by omega)) (by decide) (by decide)) (by decide) hc0) ?_
  have t1 := tk_lt (tk p 26).2 (m := 7) (by decide)
  have hp2 := tk_ok hp1 (m := 7) (by decide)
  refine q_forn (ei_range1 (ea1 (ev_take (kr := []) (ev_var rfl) ev_int (hp1.up (by omega)) (by decide) (by decide))) (by omega) (by omega)) (fun i ro ka => ∃ l p' v, ro = [some (.val (.adr a)), some (.val (.int m)), some (.val (.str (tx letL))), some (.val (.str (tx (letL ++ digL)))), some (.val (.str (tx l))), v, none, none, none, none, none] ∧ ka = [(a, .lst (Pl.ds p'))] ∧ p'.Ok (n + 2 + i) ∧ WdOk l (i + 1))
    ⟨[c0], _, none, rfl, rfl, hp2.up (by omega), ⟨c0, rfl, hm1⟩, fun x hx => by rw [List.mem_singleton.mp hx]; exact List.mem_append_left _ hm1, rfl⟩ (fun i ro ka _ => trivial) (fun i w ro2 ka2 ta' hw ⟨l, p', v, e1, e2, hp', hl⟩ => ?_) (fun ro2 ka2 ta' ⟨st, p1, v, e1, e2, hp1, hl⟩ _ => ?_)
  · subst e1 e2
    have hi : i < (tk (tk p 26).2 7).1.toNat := by
      have := (List.getElem?_eq_some_iff.mp hw).1
      rwa [List.length_map, List.length_range] at this
    have t2 := tk_lt p' (m := 36) (by decide)
    obtain ⟨c, hc, hm2⟩ := sgn_at (l := letL ++ digL) t2.1 (by rw [sig_len]; exact t2.2)
    refine g_asg (ev_addT (ev_var rfl) (ev_ixT (ev_var rfl) (ev_take (kr := []) (ev_var rfl) ev_int (hp'.up (by omega)) (by decide) (by decide)) (by decide) hc) (by rw [hl.len]; simp; omega)) (g_jp ⟨l ++ [c], _, _, rfl, rfl, (tk_ok hp' (by decide)).up (by push_cast; omega), ?_, fun x hx => ?_, by rw [List.length_append, hl.len]; rfl⟩)
    · obtain ⟨d, h1, h2⟩ := hl.hd
      exact ⟨d, head_app h1, h2⟩
    · rcases List.mem_append.mp hx with hx | hx
      · exact hl.sg x hx
      · rw [List.mem_singleton.mp hx]; exact hm2
  subst e1 e2
  rw [List.length_map, List.length_range] at hp1 hl
  have hp3 : p1.Ok (n + 9) := hp1.up (by omega)
  have hsl : st.length ≤ 7 := by have := hl.len; omega
  have t7 := tk_lt p1 (m := (st.length : Int) + 1) (by omega)
  have hp5 := tk_ok hp3 (m := (st.length : Int) + 1) (by omega)
  refine q_asg (ev_take (kr := []) (ev_var rfl) (ev_addI (ev_lenX (ev_var rfl) (by omega)) ev_int) (hp3.up (by omega)) (by omega) (by omega)) ?_
  generalize tk p1 ((st.length : Int) + 1) = q5 at *
  generalize htl : (if (q5.1 == 0) = true then letL else letL ++ digL) = tl
  have htl0 : 26 ≤ tl.length ∧ tl.length ≤ 36 := by
    rw [← htl]
    split <;> decide
  refine q_asg (w := .val (.str (tx tl))) (ev_if (et_test (ev_eqI (ev_var rfl) ev_int)) (fun hb => (ev_var rfl).to (by rw [← htl, if_pos hb])) (fun hb => (ev_var rfl).to (by rw [← htl, if_neg (by rw [hb]; exact Bool.false_ne_true)]))) ?_
  have hp6 := tk_ok hp5 (m := 36) (by decide)
  refine q_asg (ev_take (kr := []) (ev_var rfl) ev_int (hp5.up (by omega)) (by decide) (by decide)) ?_
  have t8 := tk_lt q5.2 (m := 36) (by decide)
  generalize tk q5.2 36 = q3 at *
  have hp7 := tk_ok hp6 (m := 3) (by decide)
  refine q_when (et_test (ev_eqI (ev_take (kr := []) (ev_var rfl) ev_int (hp6.up (by omega)) (by decide) (by decide)) ev_int)) (fun _ => ?_) (fun _ => ?_)
  · refine g_retR hR (evr_lc (ei_range1 (ea1 (ev_var rfl)) (by omega) (by omega)) (by decide) (by rw [List.length_map, List.length_range]; omega) (fun i acc k => ∃ ss p', acc = stD ss ∧ k = [(a, .lst (Pl.ds p'))] ∧ p'.Ok (n + 12 + i) ∧ ss.length = i ∧ (∀ s ∈ ss, isNm s = true) ∧ ∀ (j : Nat) (s : Str), ss[j]? = some s → s.cps.toList[0]? = letL[((q3.1 + 3 * (j : Int)) % 26).toNat]?) ⟨[], _, rfl, rfl, hp7.up (by omega), rfl, (fun s h => by cases h), fun j s h => by simp at h⟩ (fun i acc k _ => ⟨trivial, fun _ => trivial⟩) (fun i w acc k hw ⟨ss, p', e1, e2, hp', hl2, hs, hk⟩ => ?_)) (fun nd k ⟨acc, e0, ss, p', e1, e2, hp', hl2, hs, hk⟩ => ?_)
    · subst e1 e2
      have hi : i < m.toNat := by
        have := (List.getElem?_eq_some_iff.mp hw).1
        rwa [List.length_map, List.length_range] at this
      have hw2 : w = .val (.int (i : Int)) := by
        rw [List.getElem?_map, List.getElem?_range hi] at hw
        cases hw
        rfl
      subst hw2
      have hz : 0 ≤ (q3.1 + 3 * (i : Int)) % 26 := Int.emod_nonneg _ (by decide)
      have hz2 : (q3.1 + 3 * (i : Int)) % 26 < 26 := Int.emod_lt_of_pos _ (by decide)
      obtain ⟨c, hc, hm2⟩ := sgn_at (l := letL) hz (by rw [let_len]; exact hz2)
      have t6 := tk_lt p' (m := 8) (by decide)
      refine .inr ⟨_, _, .str (tx ([c] ++ st.take (tk p' 8).1.toNat)), et_yes, (ev_addT (ev_ixT (ev_var rfl) (ev_modI (ev_addI (ev_var rfl) (ev_mulL ev_int (ev_var rfl))) ev_int (by decide)) (by decide) hc) ((ev_slX (ev_var rfl) eo_none (eo_some (ev_take (kr := []) (ev_var rfl) ev_int (hp'.up (by omega)) (by decide) (by decide))) (by omega)).to (congrArg (fun z => W.val (.str (tx z))) (cut_to' t6.1))) (by rw [List.length_take]; simp; omega)), ss ++ [tx ([c] ++ st.take (tk p' 8).1.toNat)], _, stD_app ss [_], rfl, (tk_ok hp' (by decide)).up (by push_cast; omega), by rw [List.length_append, hl2]; rfl, fun s h => ?_, key_snoc hk (by rw [hl2, at_get hz hc]; rfl)⟩
      rcases List.mem_append.mp h with h | h
      · exact hs s h
      · rw [List.mem_singleton.mp h]
        refine nm_of ⟨c, rfl, hm2⟩ (fun x hx => ?_) ?_
        · rcases List.mem_append.mp hx with hx | hx
          · rw [List.mem_singleton.mp hx]; exact List.mem_append_left _ hm2
          · exact hl.sg x (List.mem_of_mem_take hx)
        · rw [List.length_append, List.length_take]
          simp
          omega
    · subst e1 e2
      rw [List.length_map, List.length_range] at hl2 hp'
      refine ⟨_, e0, ss, p', rfl, rfl, hp'.up (by omega), hl2, hs, key_nd hk fun i j h1 h2 => nd_inj let_nd ?_ ?_⟩
      · rw [let_len]; omega
      · omega
  refine q_asgN (evn_lst (ds := []) ea_nil (by decide)) (fun b => ?_)
  refine q_forn (ei_range1 (ea1 (ev_var rfl)) (by omega) (by omega)) (fun i ro ka => ∃ ss v v2, ro = [some (.val (.adr a)), some (.val (.int m)), some (.val (.str (tx letL))), some (.val (.str (tx (letL ++ digL)))), some (.val (.str (tx st))), v, some (.val (.int q5.1)), some (.val (.str (tx tl))), some (.val (.int q3.1)), some (.val (.adr b)), v2] ∧ ka = [(a, .lst (Pl.ds (tk q3.2 3).2)), (b, .lst (stD ss))] ∧ ss.length = i ∧ (∀ s ∈ ss, isNm s = true) ∧ ∀ (j : Nat) (s : Str), ss[j]? = some s → s.cps.toList[q5.1.toNat]? = tl[((q3.1 + 7 * (j : Int)) % (tl.length : Int)).toNat]?)
    ⟨[], _, none, rfl, rfl, rfl, (fun s h => by cases h), fun j s h => by simp at h⟩ (fun i ro ka _ => trivial) (fun i w ro2 ka2 ta' hw ⟨ss, v, v2, e1, e2, hl2, hs, hk⟩ => ?_) (fun ro2 ka2 ta' ⟨ss, v, v2, e1, e2, hl2, hs, hk⟩ _ => ?_)
  · subst e1 e2
    have hi : i < m.toNat := by
      have := (List.getElem?_eq_some_iff.mp hw).1
      rwa [List.length_map, List.length_range] at this
    have hw2 : w = .val (.int (i : Int)) := by
      rw [List.getElem?_map, List.getElem?_range hi] at hw
      cases hw
      rfl
    subst hw2
    have hz : 0 ≤ (q3.1 + 7 * (i : Int)) % (tl.length : Int) := Int.emod_nonneg _ (by omega)
    have hz2 : (q3.1 + 7 * (i : Int)) % (tl.length : Int) < tl.length := Int.emod_lt_of_pos _ (by omega)
    obtain ⟨c, hc, hm2⟩ := sgn_at (l := tl) hz hz2
    have hpl : q5.1 ≤ st.length := by omega
    refine q_asg (ev_ixT (ev_var rfl) (ev_modI (ev_addI (ev_var rfl) (ev_mulL ev_int (ev_var rfl))) (ev_lenX (ev_var rfl) (by omega)) (by omega)) (by omega) hc) ?_
    refine g_app (j0 := 1) (j := 1) (d := .str (tx (st.take q5.1.toNat ++ [c] ++ st.drop q5.1.toNat))) (ev_var rfl) rfl ((ev_addT (ev_addT (ev_slX (ev_var rfl) eo_none (eo_some (ev_var rfl)) (by omega)) (ev_var rfl) ?_) (ev_slX (ev_var rfl) (eo_some (ev_var rfl)) eo_none (by omega)) ?_).to ?_) rfl (by rw [stD_len]; omega) (g_jp ⟨ss ++ [tx (st.take q5.1.toNat ++ [c] ++ st.drop q5.1.toNat)], _, _, rfl, ?_, by rw [List.length_append, hl2]; rfl, fun s h => ?_, key_snoc hk ?_⟩)
    · have := cut_len st none (some q5.1)
      simp
      omega
    · have h1 := cut_len st none (some q5.1)
      have h2 := cut_len st (some q5.1) none
      rw [List.length_append]
      simp
      omega
    · rw [cut_to' t7.1, cut_from t7.1 hpl]
    · exact congrArg (fun z => [(a, Nd.lst (Pl.ds (tk q3.2 3).2)), (b, Nd.lst z)]) (stD_app ss [_])
    · rcases List.mem_append.mp h with h | h
      · exact hs s h
      · rw [List.mem_singleton.mp h]
        refine nm_put hl (by omega) (by omega) (fun h0 => ?_) ?_
        · have : (q5.1 == 0) = true := beq_iff_eq.mpr (by omega)
          rw [if_pos this] at htl
          rw [htl]
          exact hm2
        · rw [← htl] at hm2
          split at hm2
          · exact List.mem_append_left _ hm2
          · exact hm2
    · rw [hl2, at_get hz hc, tx_cps, List.append_assoc, List.getElem?_append_right (by rw [List.length_take]; omega), List.length_take, Nat.min_eq_left (by omega), Nat.sub_self]
      rfl
  · subst e1 e2
    rw [List.length_map, List.length_range] at hl2
    have hnd : ss.Nodup := key_nd hk fun i j h1 h2 => by
      have hl36 : tl = letL ∨ tl = letL ++ digL := by
        rw [← htl]
        split
        · exact .inl rfl
        · exact .inr rfl
      rcases hl36 with q | q
      · subst q
        rw [let_len]
        exact nd_inj let_nd (by rw [let_len]; omega) (by omega)
      · rw [q, sig_len]
        exact nd_inj sig_nd (by rw [sig_len]; omega) (by omega)
    exact Gp.frz (i := 9) (j := 1) rfl rfl (g_ret hR (ev_var rfl) ⟨ss, _, rfl, rfl, hp7.up (by omega), hl2, hs, hnd⟩)
end
def rwL (r : Ln) : D := .tup [.str r.1, .str r.2.1, .str r.2.2]
def rwD (es : List Ln) : List D := es.map rwL
def PtD (ps : List Str) (es : List Ln) : D := .lst [.lst (stD ps), .lst (rwD es)]
/-- posts and lanes of a net -/
structure PtOk (ps : List Str) (es : List Ln) : Prop where
  pn : ∀ p ∈ ps, isNm p = true
  pd : ps.Nodup
  en : ∀ r ∈ es, isNm r.1 = true
  ed : (lnN es).Nodup
  st : ∀ r ∈ es, r.2.1 ∈ ps ∧ r.2.2 ∈ ps
  pl : ps.length ≤ 40
  el : es.length ≤ 100
theorem nm_ok {s : Str} (h : isNm s = true) : nmOk (.str s) := Nat.le_trans (isNm_len h) (by decide)
theorem po_ok {K : PySem.W.Frag} {a o d : Addr} {ps : List Str} {es : List Ln} {s : Str} (h : isNm s = true) (hn : ¬ s ∈ ps) : poO K a o d ps es (.str s) = Rt .non (NetC K a o d (ps ++ [s]) es) := by
  unfold poO
  rw [if_neg (by show ¬ isNm s = false; rw [h]; decide)]
  exact if_neg hn
theorem la_ok {K : PySem.W.Frag} {a o d : Addr} {ps : List Str} {es : List Ln} {s st en : Str} (h : isNm s = true) (hn : ¬ s ∈ lnN es) (h1 : st ∈ ps) (h2 : en ∈ ps) : laO K a o d ps es (.str s) st en = Rt .non (NetC K a o d ps (es ++ [(s, st, en)])) := by
  unfold laO
  rw [if_neg (by show ¬ isNm s = false; rw [h]; decide)]
  exact (if_neg hn).trans ((if_neg fun z => z h1).trans (if_neg fun z => z h2))
theorem not_take {α : Type} {xs : List α} (h : xs.Nodup) {i : Nat} {x : α} (hx : xs[i]? = some x) : ¬ x ∈ xs.take i := fun hm => by
  have e : xs = xs.take i ++ x :: xs.drop (i + 1) := by
    obtain ⟨hi, rfl⟩ := List.getElem?_eq_some_iff.mp hx
    rw [List.getElem_cons_drop, List.take_append_drop]
  rw [e, List.nodup_append] at h
  exact h.2.2 x hm x List.mem_cons_self rfl
theorem lnN_take (es : List Ln) (i : Nat) : lnN (es.take i) = (lnN es).take i := List.map_take
def ct_law_built (K : PySem.W.Frag) : Ct := Ct1 fun s ka out => ∃ ps es, s = .val (PtD ps es) ∧ PtOk ps es ∧ ka = [] ∧ out = fun o' k => ∃ a o d, o' = .ret (.adr a) ∧ k = NetC K a o d ps es
section
variable {P : Program} {w : World} {K : PySem.W.Frag} {mg : Str → Option Value} {base : Heap}
theorem ok_law_built (T : Tx K mg) (F_Net___init : FnE P w K mg base 4 (He.ma K (He.ga K "Net") "__init__") ["self", "order", "ends_by_lane"] [.ref (He.dflAt ("Net", some "__init__") 0 K), .non] (ct_Net___init K)) (F_Net_post : Fn P w K mg base 6 (He.ma K (He.ga K "Net") "post") ["self", "name"] (ct_Net_post K)) (F_Net_lane : Fn P w K mg base 6 (He.ma K (He.ga K "Net") "lane") ["self", "name", "start", "end"] (ct_Net_lane K)) : Fn P w K mg base 8 (He.ga K "_law_built") ["_law_parts"] (ct_law_built K) := by
  obtain ⟨fd, F⟩ := T.d_law_built
  refine fn_ok F sc_law_built (fun _ _ _ _ _ _ us hl => match us, hl with | [_], _ => rfl) ct1_len (fun cdv A outer s H E hr => ⟨_, (pss_cons (ps_set (i := 1) sc_law_built.nd rfl (by first | exact Or.inl rfl | exact Or.inr rfl) (pe_make0 T.mk_Net (F_Net___init.d.up (by decide)).ok hr rfl T.g_Net.1 (F_Net___init.d.up (by decide)).bn (F_Net___init.d.up (by decide)).dv (pass_own rfl rfl rfl rfl)))
      (pss_cons (ps_for (passes_of rfl) rfl (pi_seq (pe_ix ix_seq (pv 0) pe_int fun _ _ => rfl)) (pg_name (i := 2) sc_law_built.nd rfl (by first | exact Or.inl rfl | exact Or.inr rfl)) (pss_one (ps_expr (pe_meth (pv 1) T.cl_Net T.me_Net_post (F_Net_post.up (by decide)).ok hr (F_Net_post.up (by decide)).bn .nil (pass_own rfl rfl rfl rfl) (pa_cons (pv 2) pa_nil)))))
      (pss_cons (ps_for (passes_of rfl) rfl (pi_seq (pe_ix ix_seq (pv 0) pe_int fun _ _ => rfl)) (pg_tup rfl (pgs_cons (pg_name (i := 3) sc_law_built.nd rfl (by first | exact Or.inl rfl | exact Or.inr rfl)) (pgs_cons (pg_name (i := 4) sc_law_built.nd rfl (by first | exact Or.inl rfl | exact Or.inr rfl)) (pgs_cons (pg_name (i := 5) sc_law_built.nd rfl (by first | exact Or.inl rfl | exact Or.inr rfl)) pgs_nil)))) (pss_one (ps_expr (pe_meth (pv 1) T.cl_Net T.me_Net_lane (F_Net_lane.up (by decide)).ok hr (F_Net_lane.up (by decide)).bn .nil (pass_own rfl rfl rfl rfl) (pa_cons (pv 3) (pa_cons (pv 4) (pa_cons (pv 5) pa_nil)))))))
      (pss_one (ps_ret (pv 1)))))), fun ws ka out B F0 Q hC hR hX => ?_⟩)
  obtain ⟨s, rfl, ps, es, rfl, hok, rfl, rfl⟩ := hC
  refine q_asgR (evr_make (P := fun w k => ∃ a o d, w = .val (.adr a) ∧ k = NetC K a o d [] []) ea_nil (dv_cons (wok_t0 T.t0_Net___init) (dv_cons (w := .val .non) (fun _ _ => rfl) dv_nil)) fun a => ⟨_, ⟨_, _, _, rfl, a, true, false, [], [], rfl, rfl, .vt, Nat.zero_le _, Nat.zero_le _, List.nodup_nil, .inl ⟨rfl, rfl⟩, rfl⟩, fun o' k ⟨o, d, h1, h2⟩ => ⟨h1, a, o, d, rfl, h2⟩⟩) fun w k1 ⟨a, o, d, h1, h2⟩ => ?_
  subst h1 h2
  refine q_forn (ei_strs (ev_ixV (ev_var rfl) ev_int .vl at0)) (fun i ro ka => ∃ v, ro = [some (.val (PtD ps es)), some (.val (.adr a)), v, none, none, none] ∧ ka = NetC K a o d (ps.take i) []) ⟨none, rfl, rfl⟩ (fun i ro ka _ => trivial) (fun i w ro2 ka2 ta' hw ⟨v, e1, e2⟩ => ?_) (fun ro2 ka2 ta' ⟨v, e1, e2⟩ _ => ?_)
  · subst e1 e2
    rw [List.getElem?_map] at hw
    obtain ⟨p, hp, rfl⟩ := Option.map_eq_some_iff.mp hw
    have hm := List.mem_of_getElem? hp
    refine g_drop (ev_methA (k2 := NetC K a o d (ps.take i) []) (k3 := NetC K a o d (ps.take i ++ [p]) []) (d := .non) [] (ev_var rfl) (.c 0 rfl) rfl (ea1 (ev_var rfl)) ⟨_, _, rfl, a, o, d, ps.take i, [], .str p, rfl, rfl, nm_ok (hok.pn p hm), ?_, rfl, (po_ok (hok.pn p hm) (not_take hok.pd hp)).symm⟩) (g_jp ⟨_, rfl, ?_⟩)
    · have := hok.pl
      rw [List.length_take]
      omega
    · rw [take_succ_some hp]
      rfl
  subst e1 e2
  rw [List.length_map, List.take_length]
  refine q_forT (ei_map (ts := es) (f := rwL) (ev_ixV (ev_var rfl) ev_int .vl (atI_nat (j := 1) rfl))) (fun i ro ka => ∃ v v1 v2 v3, ro = [some (.val (PtD ps es)), some (.val (.adr a)), v, v1, v2, v3] ∧ ka = NetC K a o d ps (es.take i)) ⟨v, none, none, none, rfl, rfl⟩ (fun i ro ka _ => trivial) (fun i w ro2 ka2 ta' hw ⟨v, v1, v2, v3, e1, e2⟩ => ?_) (fun ro2 ka2 ta' ⟨v, v1, v2, v3, e1, e2⟩ _ => ?_)
  · subst e1 e2
    rw [List.getElem?_map] at hw
    obtain ⟨r, hr2, rfl⟩ := Option.map_eq_some_iff.mp hw
    have hm := List.mem_of_getElem? hr2
    refine ⟨_, at_t3, g_drop (ev_methA (k2 := NetC K a o d ps (es.take i)) (k3 := NetC K a o d ps (es.take i ++ [r])) (d := .non) [] (ev_var rfl) (.c 0 rfl) rfl (ea3 (ev_var rfl) (ev_var rfl) (ev_var rfl)) ⟨_, _, _, _, rfl, a, o, d, ps, es.take i, .str r.1, r.2.1, r.2.2, rfl, rfl, nm_ok (hok.en r hm), rfl, rfl, ?_, rfl, (la_ok (hok.en r hm) ?_ (hok.st r hm).1 (hok.st r hm).2).symm⟩) (g_jp ⟨_, _, _, _, rfl, ?_⟩)⟩
    · have := hok.el
      rw [List.length_take]
      omega
    · rw [lnN_take]
      exact not_take hok.ed (lnN_at hr2)
    · rw [take_succ_some hr2]
      rfl
  · subst e1 e2
    rw [List.length_map, List.take_length]
    exact g_ret hR (ev_var rfl) ⟨a, o, d, rfl, rfl⟩
end
def ct_law_ends (K : PySem.W.Frag) : Ct := Ct1 fun s ka out => ∃ ps es, s = .val (PtD ps es) ∧ (lnN es).Nodup ∧ es.length ≤ 50000 ∧ ka = [] ∧ out = Rt (.dic (enD es)) []
section
variable {P : Program} {w : World} {K : PySem.W.Frag} {mg : Str → Option Value} {base : Heap}
theorem ok_law_ends (T : Tx K mg) : Fn P w K mg base 4 (He.ga K "_law_ends") ["_law_parts"] (ct_law_ends K) := by
  obtain ⟨fd, F⟩ := T.d_law_ends
  refine fn_ok F sc_law_ends (fun _ _ _ _ _ _ us hl => match us, hl with | [_], _ => rfl) ct1_len (fun cdv A outer s H E hr => ⟨_, (pss_cons (ps_set (i := 1) sc_law_ends.nd rfl (by first | exact Or.inl rfl | exact Or.inr rfl) pe_dnewK)
      (pss_cons (ps_for (passes_of rfl) rfl (pi_seq (pe_ix ix_seq (pv 0) pe_int fun _ _ => rfl)) (pg_tup rfl (pgs_cons (pg_name (i := 2) sc_law_ends.nd rfl (by first | exact Or.inl rfl | exact Or.inr rfl)) (pgs_cons (pg_name (i := 3) sc_law_ends.nd rfl (by first | exact Or.inl rfl | exact Or.inr rfl)) (pgs_cons (pg_name (i := 4) sc_law_ends.nd rfl (by first | exact Or.inl rfl | exact Or.inr rfl)) pgs_nil)))) (pss_one (ps_dput (hu1 hr) (pv 1) (pv 2) (pe_tup (pa_cons (pv 3) (pa_cons (pv 4) pa_nil))) rfl)))
      (pss_one (ps_ret (pv 1))))), fun ws ka out B F0 Q hC hR hX => ?_⟩)
  obtain ⟨s, rfl, ps, es, rfl, hn, hl, rfl, rfl⟩ := hC
  refine q_asgN evn_dnew (fun a => ?_)
  refine q_forT (ei_map (ts := es) (f := rwL) (ev_ixV (ev_var rfl) ev_int .vl (atI_nat (j := 1) rfl))) (fun i ro ka => ∃ v1 v2 v3, ro = [some (.val (PtD ps es)), some (.val (.adr a)), v1, v2, v3] ∧ ka = [(a, .dic (enD (es.take i)))]) ⟨none, none, none, rfl, rfl⟩ (fun i ro ka _ => trivial) (fun i w ro2 ka2 ta' hw ⟨v1, v2, v3, e1, e2⟩ => ?_) (fun ro2 ka2 ta' ⟨v1, v2, v3, e1, e2⟩ _ => ?_)
  · subst e1 e2
    rw [List.getElem?_map] at hw
    obtain ⟨r, hr2, rfl⟩ := Option.map_eq_some_iff.mp hw
    refine ⟨_, at_t3, g_dput (j := 0) (ev_tup (ds := [.str r.2.1, .str r.2.2]) (ea2 (ev_var rfl) (ev_var rfl)) (show 2 ≤ 100000 by decide)) (ev_var rfl) (ev_var rfl) rfl ?_ (g_jp ⟨_, _, _, rfl, ?_⟩)⟩
    · rw [enD_len, List.length_take]
      omega
    · rw [← enD_take hn hr2]
      rfl
  · subst e1 e2
    rw [List.length_map, List.take_length]
    exact Gp.frzK (kr := []) (i := 1) rfl (List.Perm.refl _) (g_ret hR (ev_var rfl) ⟨rfl, rfl⟩)
end
/-! ### what a post reaches -/
inductive Rch (es : List Ln) (p : Str) : Str → Prop where
  | refl : Rch es p p
  | step {x : Str} {r : Ln} (h : Rch es p x) (m : r ∈ es) (e : r.2.1 = x) : Rch es p r.2.2
/-- the lanes ls lead from p to q -/
def Wk (es : List Ln) (p : Str) : List Str → Str → Prop
  | [], q => p = q
  | l :: ls, q => ∃ r ∈ es, r.1 = l ∧ r.2.1 = p ∧ Wk es r.2.2 ls q
theorem Wk.snoc {es : List Ln} {r : Ln} (m : r ∈ es) : ∀ {ls : List Str} {p : Str}, Wk es p ls r.2.1 → Wk es p (ls ++ [r.1]) r.2.2
  | [], p, h => ⟨r, m, rfl, (show p = r.2.1 from h).symm, rfl⟩
  | l :: ls, p, ⟨r', m', e1, e2, h⟩ => ⟨r', m', e1, e2, Wk.snoc m h⟩
theorem Wk.rch {es : List Ln} {s : Str} : ∀ {ls : List Str} {p q : Str}, Rch es s p → Wk es p ls q → Rch es s q
  | [], p, q, a, h => (show p = q from h) ▸ a
  | l :: ls, p, q, a, ⟨r, m, _, e2, h⟩ => Wk.rch (Rch.step (x := p) a m e2) h
/-- the way that wy has to p -/
def lsOf (wy : List (Str × List Str)) (p : Str) : List Str := ((wy.find? fun e => decide (e.1 = p)).map (·.2)).getD []
/-- one lane looked at from cur -/
def wStp (cur : Str) (wy : List (Str × List Str)) (r : Ln) : List (Str × List Str) := if r.2.1 = cur ∧ ¬ r.2.2 ∈ keysT wy then wy ++ [(r.2.2, lsOf wy cur ++ [r.1])] else wy
/-- the search: n posts may still be looked at, the next one is the a-th, its first j lanes are done -/
def bfsJ (es : List Ln) : Nat → Nat → Nat → List (Str × List Str) → List (Str × List Str)
  | 0, _, _, wy => wy
  | n + 1, a, j, wy => match (keysT wy)[a]? with
    | some cur => bfsJ es n (a + 1) 0 ((es.drop j).foldl (wStp cur) wy)
    | none => wy
def wyAll (ps : List Str) (es : List Ln) (s : Str) : List (Str × List Str) := bfsJ es ps.length 0 0 [(s, [])]
theorem lsOf_of {wy : List (Str × List Str)} (hn : (keysT wy).Nodup) {p : Str} {ls : List Str} (h : (p, ls) ∈ wy) : lsOf wy p = ls := by
  unfold lsOf
  induction wy with
  | nil => cases h
  | cons x l ih =>
    have hn2 := List.nodup_cons.mp hn
    rw [List.find?_cons]
    rcases List.mem_cons.mp h with e | h
    · rw [← e, decide_eq_true rfl]
      rfl
    · have ne : ¬ x.1 = p := fun z => hn2.1 (by show x.1 ∈ _; rw [z]; exact List.mem_map.mpr ⟨_, h, rfl⟩)
      rw [decide_eq_false ne]
      exact ih hn2.2 h
theorem bfsJ_skip {es : List Ln} {n a j : Nat} {wy : List (Str × List Str)} {r : Ln} (hr : es[j]? = some r) (h : ∀ cur, (keysT wy)[a]? = some cur → wStp cur wy r = wy) : bfsJ es n a (j + 1) wy = bfsJ es n a j wy := by
  cases n with
  | zero => rfl
  | succ n =>
    unfold bfsJ
    cases hc : (keysT wy)[a]? with
    | none => rfl
    | some cur =>
      have e : es.drop j = r :: es.drop (j + 1) := by
        obtain ⟨hj, rfl⟩ := List.getElem?_eq_some_iff.mp hr
        rw [List.getElem_cons_drop]
      dsimp only
      rw [e, List.foldl_cons, h cur hc]
theorem bfsJ_add {es : List Ln} {n a j : Nat} {wy : List (Str × List Str)} {r : Ln} {cur : Str} (hr : es[j]? = some r) (hc : (keysT wy)[a]? = some cur) (h1 : r.2.1 = cur) (h2 : ¬ r.2.2 ∈ keysT wy) : bfsJ es n a (j + 1) (wy ++ [(r.2.2, lsOf wy cur ++ [r.1])]) = bfsJ es n a j wy ∨ n = 0 := by
  cases n with
  | zero => exact .inr rfl
  | succ n =>
    refine .inl ?_
    have e : es.drop j = r :: es.drop (j + 1) := by
      obtain ⟨hj, rfl⟩ := List.getElem?_eq_some_iff.mp hr
      rw [List.getElem_cons_drop]
    have hlt := (List.getElem?_eq_some_iff.mp hc).1
    have hc2 : (keysT (wy ++ [(r.2.2, lsOf wy cur ++ [r.1])]))[a]? = some cur := by
      rw [keys_app, List.getElem?_append_left hlt]
      exact hc
    unfold bfsJ
    rw [hc, hc2]
    dsimp only
    rw [e, List.foldl_cons]
    have : wStp cur wy r = wy ++ [(r.2.2, lsOf wy cur ++ [r.1])] := if_pos ⟨h1, h2⟩
    rw [this]
theorem bfsJ_next {es : List Ln} {n a : Nat} {wy : List (Str × List Str)} {cur : Str} (hc : (keysT wy)[a]? = some cur) : bfsJ es (n + 1) a es.length wy = bfsJ es n (a + 1) 0 wy := by
  rw [bfsJ, hc]
  dsimp only
  rw [List.drop_length]
  rfl
theorem bfsJ_end {es : List Ln} {n a j : Nat} {wy : List (Str × List Str)} (hc : (keysT wy)[a]? = none) : bfsJ es n a j wy = wy := by
  cases n with
  | zero => rfl
  | succ n => rw [bfsJ, hc]
def wyD (wy : List (Str × List Str)) : List (Key × D) := tbD (fun ls => .lst (stD ls)) wy
/-- wy: of each post that s reaches a walk from s to it -/
structure WyOk (ps : List Str) (es : List Ln) (s : Str) (wy : List (Str × List Str)) : Prop where
  eq : wy = wyAll ps es s
  nd : (keysT wy).Nodup
  wk : ∀ p ls, (p, ls) ∈ wy → Wk es s ls p ∧ ls.length ≤ wy.length
  all : ∀ p, p ∈ keysT wy ↔ Rch es s p
/-- on the way: the first at ones are done, of the next one the first j lanes -/
structure WyIn (ps : List Str) (es : List Ln) (s : Str) (at' j : Nat) (wy : List (Str × List Str)) : Prop where
  nd : (keysT wy).Nodup
  sub : ∀ p ∈ keysT wy, p ∈ ps
  st : s ∈ keysT wy
  wk : ∀ p ls, (p, ls) ∈ wy → Wk es s ls p ∧ ls.length ≤ wy.length
  le : at' ≤ wy.length
  done : ∀ i, i < at' → ∀ p, (keysT wy)[i]? = some p → ∀ r ∈ es, r.2.1 = p → r.2.2 ∈ keysT wy
  cur : ∀ p, (keysT wy)[at']? = some p → ∀ i r, i < j → es[i]? = some r → r.2.1 = p → r.2.2 ∈ keysT wy
  run : bfsJ es (ps.length - at') at' j wy = wyAll ps es s
theorem sub_len : ∀ {xs ys : List Str}, xs.Nodup → (∀ x ∈ xs, x ∈ ys) → xs.length ≤ ys.length
  | [], _, _, _ => Nat.zero_le _
  | x :: xs, ys, h, s => by
    have h2 := List.nodup_cons.mp h
    have hx := s x List.mem_cons_self
    have := sub_len (xs := xs) (ys := ys.erase x) h2.2 fun y hy => (List.mem_erase_of_ne (fun z : y = x => h2.1 (by rw [← z]; exact hy))).mpr (s y (List.mem_cons_of_mem _ hy))
    rw [List.length_erase_of_mem hx] at this
    have : 0 < ys.length := List.length_pos_of_mem hx
    rw [List.length_cons]
    omega
theorem WyIn.len {ps : List Str} {es : List Ln} {s : Str} {a j : Nat} {wy : List (Str × List Str)} (h : WyIn ps es s a j wy) : wy.length ≤ ps.length := by
  have := sub_len h.nd h.sub
  rwa [List.length_map] at this
/-- a lane that leads to a post there already, or that starts elsewhere -/
theorem WyIn.skip {ps : List Str} {es : List Ln} {s : Str} {a j : Nat} {wy : List (Str × List Str)} (h : WyIn ps es s a j wy) {r : Ln} (hr : es[j]? = some r) (c : ∀ p, (keysT wy)[a]? = some p → r.2.1 = p → r.2.2 ∈ keysT wy) : WyIn ps es s a (j + 1) wy :=
  ⟨h.nd, h.sub, h.st, h.wk, h.le, h.done, fun p hp i r' hi hr' e => by
    by_cases q : i = j
    · subst q
      rw [hr] at hr'
      cases hr'
      exact c p hp e
    · exact h.cur p hp i r' (by omega) hr' e, (bfsJ_skip hr fun cur hc => if_neg fun z => z.2 (c cur hc z.1)).trans h.run⟩
/-- a lane that leads to a new post -/
theorem WyIn.add {ps : List Str} {es : List Ln} {s : Str} {a j : Nat} {wy : List (Str × List Str)} (h : WyIn ps es s a j wy) {r : Ln} (hr : es[j]? = some r) {ls : List Str} (hf : (r.2.1, ls) ∈ wy) (hcu : (keysT wy)[a]? = some r.2.1) (hn : ¬ r.2.2 ∈ keysT wy) (hp : r.2.2 ∈ ps) (hl : a < wy.length) : WyIn ps es s a (j + 1) (wy ++ [(r.2.2, ls ++ [r.1])]) := by
  have m := List.mem_of_getElem? hr
  have hk : keysT (wy ++ [(r.2.2, ls ++ [r.1])]) = keysT wy ++ [r.2.2] := keys_app _ _
  have up : ∀ {x}, x ∈ keysT wy → x ∈ keysT (wy ++ [(r.2.2, ls ++ [r.1])]) := fun hx => by rw [hk]; exact List.mem_append_left _ hx
  refine ⟨?_, fun p q => ?_, up h.st, fun p ms q => ?_, ?_, fun i hi p e r' m' e' => ?_, fun p e i r' hi hr' e' => ?_, ?_⟩
  · rw [hk, List.nodup_append]
    refine ⟨h.nd, List.nodup_cons.mpr ⟨List.not_mem_nil, List.nodup_nil⟩, fun x hx y hy z => hn ?_⟩
    rw [List.mem_singleton.mp hy] at z
    rw [← z]; exact hx
  · rw [hk] at q
    rcases List.mem_append.mp q with q | q
    · exact h.sub p q
    · rw [List.mem_singleton.mp q]; exact hp
  · rw [List.length_append, List.length_singleton]
    rcases List.mem_append.mp q with q | q
    · have := h.wk p ms q
      exact ⟨this.1, by omega⟩
    · have q' := List.mem_singleton.mp q
      cases q'
      have := h.wk _ _ hf
      exact ⟨this.1.snoc m, by rw [List.length_append, List.length_singleton]; omega⟩
  · rw [List.length_append]; have := h.le; omega
  · rw [hk, List.getElem?_append_left (by rw [List.length_map]; have := h.le; omega)] at e
    exact up (h.done i hi p e r' m' e')
  · rw [hk, List.getElem?_append_left (by rw [List.length_map]; exact hl)] at e
    by_cases q : i = j
    · subst q
      rw [hr] at hr'
      cases hr'
      rw [hk]
      exact List.mem_append_right _ (List.mem_singleton.mpr rfl)
    · exact up (h.cur p e i r' (by omega) hr' e')
  · have hw := h.len
    have hr3 := bfsJ_add (n := ps.length - a) hr hcu rfl hn
    rw [lsOf_of h.nd hf] at hr3
    exact (hr3.resolve_right (by omega)).trans h.run
theorem WyIn.next {ps : List Str} {es : List Ln} {s : Str} {a : Nat} {wy : List (Str × List Str)} (h : WyIn ps es s a es.length wy) (hl : a < wy.length) : WyIn ps es s (a + 1) 0 wy :=
  ⟨h.nd, h.sub, h.st, h.wk, hl, fun i hi p e r m e' => by
    by_cases q : i = a
    · subst q
      obtain ⟨k, hk, rfl⟩ := List.mem_iff_getElem.mp m
      exact h.cur p e k _ hk (List.getElem?_eq_getElem hk) e'
    · exact h.done i (by omega) p e r m e', fun _ _ _ _ z => absurd z (Nat.not_lt_zero _), by
    have hw := h.len
    have e1 : ps.length - a = ps.length - (a + 1) + 1 := by omega
    have h2 := h.run
    rw [e1, bfsJ_next (List.getElem?_eq_getElem (by rw [List.length_map]; exact hl))] at h2
    exact h2⟩
theorem WyIn.fin {ps : List Str} {es : List Ln} {s : Str} {j : Nat} {wy : List (Str × List Str)} (h : WyIn ps es s wy.length j wy) : WyOk ps es s wy := by
  refine ⟨(bfsJ_end (List.getElem?_eq_none (by rw [List.length_map]; exact Nat.le_refl _))).symm.trans h.run, h.nd, h.wk, fun p => ⟨fun q => ?_, fun q => ?_⟩⟩
  · obtain ⟨ls, hv⟩ := key_has q
    exact (h.wk _ _ hv).1.rch .refl
  · induction q with
    | refl => exact h.st
    | @step x r _ m e ih =>
      obtain ⟨i, hi⟩ := List.mem_iff_getElem?.mp ih
      have hlt := (List.getElem?_eq_some_iff.mp hi).1
      rw [List.length_map] at hlt
      exact h.done i hlt x hi r m e
theorem WyIn.ini {ps : List Str} {es : List Ln} {s : Str} (h : s ∈ ps) : WyIn ps es s 0 0 [(s, [])] := by
  refine ⟨List.nodup_cons.mpr ⟨List.not_mem_nil, List.nodup_nil⟩, fun p q => ?_, List.mem_singleton.mpr rfl, fun p ls q => ?_, Nat.zero_le _, fun i hi => absurd hi (Nat.not_lt_zero _), fun _ _ _ _ z => absurd z (Nat.not_lt_zero _), rfl⟩
  · rw [List.mem_singleton.mp q]; exact h
  · cases List.mem_singleton.mp q
    exact ⟨rfl, Nat.zero_le _⟩
def ct_law_ways (K : PySem.W.Frag) : Ct := Ct2 fun a b ka out => ∃ ps es s, a = .val (PtD ps es) ∧ b = .val (.str s) ∧ s ∈ ps ∧ (∀ r ∈ es, r.2.2 ∈ ps) ∧ ps.length ≤ 1000 ∧ es.length ≤ 50000 ∧ ka = [] ∧ out = fun o k => ∃ wy, o = .ret (.dic (wyD wy)) ∧ k = [] ∧ WyOk ps es s wy
section
variable {P : Program} {w : World} {K : PySem.W.Frag} {mg : Str → Option Value} {base : Heap}
theorem ok_law_ways (T : Tx K mg) : Fn P w K mg base 4 (He.ga K "_law_ways") ["_law_parts", "_law_start"] (ct_law_ways K) := by
  obtain ⟨fd, F⟩ := T.d_law_ways
  refine fn_ok F sc_law_ways (fun _ _ _ _ _ _ us hl => match us, hl with | [_, _], _ => rfl) ct2_len (fun cdv A outer s H E hr => ⟨_, (pss_cons (ps_set (i := 2) sc_law_ways.nd rfl (by first | exact Or.inl rfl | exact Or.inr rfl) (pe_disp (pps_cons (pv 1) (pe_lst pa_nil) pps_nil) rfl rfl (by simp) (by decide)))
      (pss_cons (ps_set (i := 3) sc_law_ways.nd rfl (by first | exact Or.inl rfl | exact Or.inr rfl) (pe_lst (pa_cons (pv 1) pa_nil)))
      (pss_cons (ps_set (i := 4) sc_law_ways.nd rfl (by first | exact Or.inl rfl | exact Or.inr rfl) pe_int)
      (pss_cons (ps_while (passes_of rfl) (pt_cmpR op_lt (pv 4) (pe_callB call_lenU rfl T.n_len (by decide +kernel) (pa_cons (pv 3) pa_nil)) (nomark _)) (pss_cons (ps_for (passes_of rfl) rfl (pi_seq (pe_ix ix_seq (pv 0) pe_int fun _ _ => rfl)) (pg_tup rfl (pgs_cons (pg_name (i := 5) sc_law_ways.nd rfl (by first | exact Or.inl rfl | exact Or.inr rfl)) (pgs_cons (pg_name (i := 6) sc_law_ways.nd rfl (by first | exact Or.inl rfl | exact Or.inr rfl)) (pgs_cons (pg_name (i := 7) sc_law_ways.nd rfl (by first | exact Or.inl rfl | exact Or.inr rfl)) pgs_nil)))) (pss_one (ps_if (PW.pt (pw_and (pt_cmpR (op_eqP (by have := (hr).units; exact this)) (pv 6) (pe_ix ix_seq (pv 3) (pv 4) fun _ _ => rfl) (nomark _)) (pw_and1 (pt_cmp (pc_dnotin (hu1 hr) (pv 7) (pv 2)) (by with_unfolding_all rfl)))))
      (pss_cons (ps_dput (hu1 hr) (pv 2) (pv 7) (pe_op op_addU (pe_dget (hu1 hr) (pv 2) (pv 6) fun _ _ => rfl) (pe_lst (pa_cons (pv 5) pa_nil))) rfl)
      (pss_one (ps_expr (pe_bm PySem.F.plainAttrs_list PySem.F.slot_list_append PySem.F.type_list_append mt_append (pv 3) (pa_cons (pv 7) pa_nil)))))
      pss_nil)))
      (pss_one (ps_set (i := 4) sc_law_ways.nd rfl (by first | exact Or.inl rfl | exact Or.inr rfl) (pe_op op_addU (pv 4) pe_int)))))
      (pss_one (ps_ret (pv 2))))))), fun ws ka out B F0 Q hC hR hX => ?_⟩)
  obtain ⟨a, b, rfl, ps, es, s, rfl, rfl, hs, hps, hl, hel, rfl, rfl⟩ := hC
  refine q_asgN (evn_disp1 (d := .lst []) (ev_var rfl) (evn_lst (ds := []) ea_nil (show 0 ≤ 100000 by decide)).lst) (fun a => ?_)
  refine q_asgN (evn_lst (ds := [.str s]) (ea1 (ev_var rfl)) (show 1 ≤ 100000 by decide)) (fun b => ?_)
  refine q_asg ev_int ?_
  refine q_while (fun m ro ka => ∃ (wy : List (Str × List Str)) (n : Nat) (v1 v2 v3 : Option W), ro = [some (.val (PtD ps es)), some (.val (.str s)), some (.val (.adr a)), some (.val (.adr b)), some (.val (.int n)), v1, v2, v3] ∧ ka = [(a, .dic (wyD wy)), (b, .lst (stD (keysT wy)))] ∧ WyIn ps es s n 0 wy ∧ m = ps.length - n)
    ps.length ⟨[(s, [])], 0, none, none, none, rfl, rfl, .ini hs, rfl⟩ (fun m ro2 ka2 ⟨wy, n, v1, v2, v3, e1, e2, hw, hm⟩ => ?_)
  subst e1 e2
  refine ⟨_, _, et_test (ev_lt (ev_var rfl) (ev_len (ev_var rfl) (.ce 1 rfl))), fun hb => ?_, fun hb => ?_⟩
  · rw [decide_eq_true_eq, stD_len, List.length_map] at hb
    have hlt : n < wy.length := by omega
    obtain ⟨cur, hcur⟩ : ∃ c, (keysT wy)[n]? = some c := ⟨_, List.getElem?_eq_getElem (by rw [List.length_map]; exact hlt)⟩
    refine q_forT (ei_map (ts := es) (f := rwL) (ev_ixV (ev_var rfl) ev_int .vl (atI_nat (j := 1) rfl))) (fun i ro ka => ∃ wy v1 v2 v3, ro = [some (.val (PtD ps es)), some (.val (.str s)), some (.val (.adr a)), some (.val (.adr b)), some (.val (.int n)), v1, v2, v3] ∧ ka = [(a, .dic (wyD wy)), (b, .lst (stD (keysT wy)))] ∧ WyIn ps es s n i wy ∧ n < wy.length ∧ (keysT wy)[n]? = some cur)
      ⟨wy, v1, v2, v3, rfl, rfl, hw, hlt, hcur⟩ (fun i ro ka _ => trivial) (fun i w ro2 ka2 ta' hw2 ⟨wy, v1, v2, v3, e1, e2, hw, hlt, hcur⟩ => ?_) (fun ro2 ka2 ta' ⟨wy, v1, v2, v3, e1, e2, hw, hlt, hcur⟩ hsub => ?_)
    · subst e1 e2
      rw [List.getElem?_map] at hw2
      obtain ⟨r, hr2, rfl⟩ := Option.map_eq_some_iff.mp hw2
      have hm2 := List.mem_of_getElem? hr2
      refine ⟨_, at_t3, g_if (et_and (et_test (ev_eqS (ev_var rfl) (ev_ixV (ev_var rfl) (ev_var rfl) (.ce 1 rfl) (atI_nat (stD_get hcur))))) fun _ => et_B ((ev_dni (ev_var rfl) (ev_var rfl) (.ce 0 rfl)).to (by rw [show wyD wy = tbD _ wy from rfl, tb_in]))) (fun hb => ?_) (fun hb => g_next (g_jp ⟨wy, _, _, _, rfl, rfl, hw.skip hr2 fun p hp e => ?_, hlt, hcur⟩))⟩
      · rw [Bool.and_eq_true, beq_iff_eq, Bool.not_eq_true', decide_eq_false_iff_not] at hb
        obtain ⟨h1, h2⟩ := hb
        have hm3 : r.2.1 ∈ keysT wy := by rw [h1]; exact List.mem_of_getElem? hcur
        obtain ⟨ls, hls⟩ := key_has hm3
        have hb2 : wy.length < 1001 := by have := hw.len; omega
        have hll := (hw.wk _ _ hls).2
        refine q_dput (j := 0) (d := .lst (stD (ls ++ [r.1]))) ((evn_op (ev_dgetV (d := .lst (stD ls)) (ev_var rfl) (ev_var rfl) (.ce 0 rfl) (tb_get hw.nd hls)) (evn_lst (ds := [.str r.1]) (ea1 (ev_var rfl)) (show 1 ≤ 100000 by decide)).lst (rvn_cat (b1 := false) (b2 := false) .vl .vl (by rw [stD_len, List.length_singleton]; omega))).lst.to (congrArg (fun z => W.val (.lst z)) (stD_app ls [r.1]))) (ev_var rfl) (ev_var rfl) rfl (by rw [show wyD wy = tbD _ wy from rfl, tbD_len]; omega) ?_
        refine g_app (j0 := 1) (j := 1) (d := .str r.2.2) (ev_var rfl) rfl (ev_var rfl) rfl (by rw [stD_len, List.length_map]; omega) (g_jp ⟨wy ++ [(r.2.2, ls ++ [r.1])], _, _, _, rfl, ?_, hw.add hr2 hls (h1 ▸ hcur) h2 (hps r hm2) hlt, by rw [List.length_append]; omega, ?_⟩)
        · have e5 : putT (wyD wy) (.inr r.2.2) (.lst (stD (ls ++ [r.1]))) = wyD (wy ++ [(r.2.2, ls ++ [r.1])]) := tb_put (f := fun ls => .lst (stD ls)) h2
          have e6 : stD (keysT (wy ++ [(r.2.2, ls ++ [r.1])])) = stD (keysT wy) ++ [.str r.2.2] := by rw [keys_app, ← stD_app]; rfl
          rw [e6, ← e5]
          rfl
        · rw [keys_app, List.getElem?_append_left (by rw [List.length_map]; exact hlt)]
          exact hcur
      · rw [hcur] at hp
        cases hp
        rw [Bool.and_eq_false_iff, beq_eq_false_iff_ne, Bool.not_eq_false', decide_eq_true_eq] at hb
        rcases hb with hb | hb
        · exact absurd e hb
        · exact hb
    · subst e1 e2
      rw [List.length_map] at hw
      have hb2 : wy.length ≤ ps.length := hw.len
      exact g_asg (ev_addI (ev_var rfl) ev_int) (g_jpH hsub ⟨ps.length - (n + 1), by omega, wy, n + 1, _, _, _, rfl, rfl, hw.next hlt, rfl⟩)
  · rw [decide_eq_false_iff_not, stD_len, List.length_map] at hb
    have hle := hw.le
    have hn : n = wy.length := by omega
    subst hn
    exact Gp.frzK (kr := [(b, .lst (stD (keysT wy)))]) (i := 2) rfl (List.Perm.swap _ _ _) (Gp.less (k1 := []) (g_ret hR (ev_var rfl) ⟨wy, rfl, rfl, hw.fin⟩) (List.nil_sublist _))
end
/-- the search only adds at the end -/
theorem wStp_pre (cur : Str) (wy : List (Str × List Str)) (r : Ln) : ∃ zs, wStp cur wy r = wy ++ zs := by
  unfold wStp
  split
  · exact ⟨_, rfl⟩
  · exact ⟨[], (List.append_nil _).symm⟩
theorem wFold_pre (cur : Str) : ∀ (es : List Ln) (wy : List (Str × List Str)), ∃ zs, es.foldl (wStp cur) wy = wy ++ zs
  | [], wy => ⟨[], (List.append_nil _).symm⟩
  | r :: es, wy => by
    obtain ⟨z1, e1⟩ := wStp_pre cur wy r
    obtain ⟨z2, e2⟩ := wFold_pre cur es (wStp cur wy r)
    exact ⟨z1 ++ z2, by rw [List.foldl_cons, e2, e1, List.append_assoc]⟩
theorem bfsJ_pre (es : List Ln) : ∀ (n a j : Nat) (wy : List (Str × List Str)), ∃ zs, bfsJ es n a j wy = wy ++ zs
  | 0, _, _, wy => ⟨[], (List.append_nil _).symm⟩
  | n + 1, a, j, wy => by
    rw [bfsJ]
    cases (keysT wy)[a]? with
    | none => exact ⟨[], (List.append_nil _).symm⟩
    | some cur =>
      dsimp only
      obtain ⟨z1, e1⟩ := wFold_pre cur (es.drop j) wy
      obtain ⟨z2, e2⟩ := bfsJ_pre es n (a + 1) 0 ((es.drop j).foldl (wStp cur) wy)
      exact ⟨z1 ++ z2, by rw [e2, e1, List.append_assoc]⟩
theorem wy_stays {wy zs : List (Str × List Str)} {s : Str} (h : s ∈ keysT wy) : getD? (wyD (wy ++ zs)) s = getD? (wyD wy) s := by
  have hs : (getT (wyD wy) (.inr s)).isSome = true := by
    rw [show wyD wy = tbD _ wy from rfl, tb_in]
    exact decide_eq_true h
  have e : wyD (wy ++ zs) = wyD wy ++ wyD zs := tbD_app _ _
  unfold getD? getT at *
  rw [e, List.find?_append]
  rw [Option.isSome_map] at hs
  obtain ⟨x, hx⟩ := Option.isSome_iff_exists.mp hs
  rw [hx]
  rfl
def ct_shortest_way (K : PySem.W.Frag) : Ct := Ct3 fun a b c ka out => ∃ ps es s q, a = .val (.dic (enD es)) ∧ b = .val (.str s) ∧ c = .val (.str q) ∧ s ∈ ps ∧ (∀ r ∈ es, r.2.2 ∈ ps) ∧ (lnN es).Nodup ∧ ps.length ≤ 1000 ∧ es.length ≤ 50000 ∧ ka = [] ∧ out = Rt (getD? (wyD (wyAll ps es s)) q) []
section
variable {P : Program} {w : World} {K : PySem.W.Frag} {mg : Str → Option Value} {base : Heap}
theorem ok_shortest_way (T : Tx K mg) : Fn P w K mg base 4 (He.ga K "shortest_way") ["ends_by_lane", "first", "second"] (ct_shortest_way K) := by
  obtain ⟨fd, F⟩ := T.d_shortest_way
  refine fn_ok F sc_shortest_way (fun _ _ _ _ _ _ us hl => match us, hl with | [_, _, _], _ => rfl) ct3_len (fun cdv A outer s H E hr => ⟨_, (pss_cons (ps_set (i := 3) sc_shortest_way.nd rfl (by first | exact Or.inl rfl | exact Or.inr rfl) (pe_disp (pps_cons (pv 1) (pe_lst pa_nil) pps_nil) rfl rfl (by simp) (by decide)))
      (pss_cons (ps_set (i := 4) sc_shortest_way.nd rfl (by first | exact Or.inl rfl | exact Or.inr rfl) (pe_lst (pa_cons (pv 1) pa_nil)))
      (pss_cons (ps_set (i := 5) sc_shortest_way.nd rfl (by first | exact Or.inl rfl | exact Or.inr rfl) pe_int)
      (pss_cons (ps_while (passes_of rfl) (PW.pt (pw_and (pt_cmpR op_lt (pv 5) (pe_callB call_lenU rfl T.n_len (by decide +kernel) (pa_cons (pv 4) pa_nil)) (nomark _)) (pw_and1 (pt_cmp (pc_dnotin (hu1 hr) (pv 2) (pv 3)) (by with_unfolding_all rfl))))) (pss_cons (ps_lkS (ps_for (passes_of rfl) rfl (pi_keys (pv 0)) (pg_name (i := 6) sc_shortest_way.nd rfl (by first | exact Or.inl rfl | exact Or.inr rfl)) (pss_cons (ps_asg (pe_dget (hu1 hr) (pv 0) (pv 6) fun _ _ => rfl) (pg_tup rfl (pgs_cons (pg_name (i := 7) sc_shortest_way.nd rfl (by first | exact Or.inl rfl | exact Or.inr rfl)) (pgs_cons (pg_name (i := 8) sc_shortest_way.nd rfl (by first | exact Or.inl rfl | exact Or.inr rfl)) pgs_nil))))
      (pss_one (ps_if (PW.pt (pw_and (pt_cmpR (op_eqP (by have := (hr).units; exact this)) (pv 7) (pe_ix ix_seq (pv 4) (pv 5) fun _ _ => rfl) (nomark _)) (pw_and1 (pt_cmp (pc_dnotin (hu1 hr) (pv 8) (pv 3)) (by with_unfolding_all rfl)))))
      (pss_cons (ps_dput (hu1 hr) (pv 3) (pv 8) (pe_op op_addU (pe_dget (hu1 hr) (pv 3) (pv 7) fun _ _ => rfl) (pe_lst (pa_cons (pv 6) pa_nil))) rfl)
      (pss_one (ps_expr (pe_bm PySem.F.plainAttrs_list PySem.F.slot_list_append PySem.F.type_list_append mt_append (pv 4) (pa_cons (pv 8) pa_nil)))))
      pss_nil)))))
      (pss_one (ps_aug (i := 5) sc_shortest_way.nd rfl (by first | exact Or.inl rfl | exact Or.inr rfl) pe_int ip_add))))
      (pss_one (ps_ret (pe_dget1 (hu1 hr) (pv 3) (pv 2) ⟨rfl, rfl, rfl, rfl⟩))))))), fun ws ka out B F0 Q hC hR hX => ?_⟩)
  obtain ⟨a, b, c, rfl, ps, es, s, q, rfl, rfl, rfl, hs, hps, hnd, hl, hel, rfl, rfl⟩ := hC
  refine q_asgN (evn_disp1 (d := .lst []) (ev_var rfl) (evn_lst (ds := []) ea_nil (show 0 ≤ 100000 by decide)).lst) (fun a => ?_)
  refine q_asgN (evn_lst (ds := [.str s]) (ea1 (ev_var rfl)) (show 1 ≤ 100000 by decide)) (fun b => ?_)
  refine q_asg ev_int ?_
  refine q_while (fun m ro ka => ∃ (wy : List (Str × List Str)) (n : Nat) (v1 v2 v3 : Option W), ro = [some (.val (.dic (enD es))), some (.val (.str s)), some (.val (.str q)), some (.val (.adr a)), some (.val (.adr b)), some (.val (.int n)), v1, v2, v3] ∧ ka = [(a, .dic (wyD wy)), (b, .lst (stD (keysT wy)))] ∧ WyIn ps es s n 0 wy ∧ m = ps.length - n)
    ps.length ⟨[(s, [])], 0, none, none, none, rfl, rfl, .ini hs, rfl⟩ (fun m ro2 ka2 ⟨wy, n, v1, v2, v3, e1, e2, hw, hm⟩ => ?_)
  subst e1 e2
  refine ⟨_, _, et_and (et_test (ev_lt (ev_var rfl) (ev_len (ev_var rfl) (.ce 1 rfl)))) (fun _ => et_B ((ev_dni (ev_var rfl) (ev_var rfl) (.ce 0 rfl)).to (by rw [show wyD wy = tbD _ wy from rfl, tb_in]))), fun hb => ?_, fun hb => ?_⟩
  · rw [Bool.and_eq_true, decide_eq_true_eq, stD_len, List.length_map] at hb
    have hlt : n < wy.length := by omega
    obtain ⟨cur, hcur⟩ : ∃ c, (keysT wy)[n]? = some c := ⟨_, List.getElem?_eq_getElem (by rw [List.length_map]; exact hlt)⟩
    refine q_forK (evp_var rfl) (fun i ro ka => ∃ (wy : List (Str × List Str)) (v1 v2 v3 : Option W), ro = [some (.val (.dic (enD es))), some (.val (.str s)), some (.val (.str q)), some (.val (.adr a)), some (.val (.adr b)), some (.val (.int n)), v1, v2, v3] ∧ ka = [(a, .dic (wyD wy)), (b, .lst (stD (keysT wy)))] ∧ WyIn ps es s n i wy ∧ n < wy.length ∧ (keysT wy)[n]? = some cur) (fun _ _ => False)
      ⟨wy, v1, v2, v3, rfl, rfl, hw, hlt, hcur⟩ (fun B' F1 rt' bk' ta' hrt hbk i kv ro2 ka2 hkv ⟨wy, v1, v2, v3, e1, e2, hw, hlt, hcur⟩ => ?_) (fun ro2 ka2 h => ?_)
    · subst e1 e2
      obtain ⟨r, hr2, rfl⟩ := enD_at hkv
      have hm2 := List.mem_of_getElem? hr2
      refine ⟨_, at_n, q_asgT (ev_dgetV (d := lnD r) (ev_var rfl) (ev_var rfl) .v (enD_get hnd hr2)) at_t2 ?_⟩
      refine g_if (et_and (et_test (ev_eqS (ev_var rfl) (ev_ixV (ev_var rfl) (ev_var rfl) (.ce 1 rfl) (atI_nat (stD_get hcur))))) fun _ => et_B ((ev_dni (ev_var rfl) (ev_var rfl) (.ce 0 rfl)).to (by rw [show wyD wy = tbD _ wy from rfl, tb_in]))) (fun hb => ?_) (fun hb => g_next (g_jp ⟨wy, _, _, _, rfl, rfl, hw.skip hr2 fun p hp e => ?_, hlt, hcur⟩))
      · rw [Bool.and_eq_true, beq_iff_eq, Bool.not_eq_true', decide_eq_false_iff_not] at hb
        obtain ⟨h1, h2⟩ := hb
        have hm3 : r.2.1 ∈ keysT wy := by rw [h1]; exact List.mem_of_getElem? hcur
        obtain ⟨ls, hls⟩ := key_has hm3
        have hb2 : wy.length < 1001 := by have := hw.len; omega
        have hll := (hw.wk _ _ hls).2
        refine q_dput (j := 0) (d := .lst (stD (ls ++ [r.1]))) ((evn_op (ev_dgetV (d := .lst (stD ls)) (ev_var rfl) (ev_var rfl) (.ce 0 rfl) (tb_get hw.nd hls)) (evn_lst (ds := [.str r.1]) (ea1 (ev_var rfl)) (show 1 ≤ 100000 by decide)).lst (rvn_cat (b1 := false) (b2 := false) .vl .vl (by rw [stD_len, List.length_singleton]; omega))).lst.to (congrArg (fun z => W.val (.lst z)) (stD_app ls [r.1]))) (ev_var rfl) (ev_var rfl) rfl (by rw [show wyD wy = tbD _ wy from rfl, tbD_len]; omega) ?_
        refine g_app (j0 := 1) (j := 1) (d := .str r.2.2) (ev_var rfl) rfl (ev_var rfl) rfl (by rw [stD_len, List.length_map]; omega) (g_jp ⟨wy ++ [(r.2.2, ls ++ [r.1])], _, _, _, rfl, ?_, hw.add hr2 hls (h1 ▸ hcur) h2 (hps r hm2) hlt, by rw [List.length_append]; omega, ?_⟩)
        · have e5 : putT (wyD wy) (.inr r.2.2) (.lst (stD (ls ++ [r.1]))) = wyD (wy ++ [(r.2.2, ls ++ [r.1])]) := tb_put (f := fun ls => .lst (stD ls)) h2
          have e6 : stD (keysT (wy ++ [(r.2.2, ls ++ [r.1])])) = stD (keysT wy) ++ [.str r.2.2] := by rw [keys_app, ← stD_app]; rfl
          rw [e6, ← e5]
          rfl
        · rw [keys_app, List.getElem?_append_left (by rw [List.length_map]; exact hlt)]
          exact hcur
      · rw [hcur] at hp
        cases hp
        rw [Bool.and_eq_false_iff, beq_eq_false_iff_ne, Bool.not_eq_false', decide_eq_true_eq] at hb
        rcases hb with hb | hb
        · exact absurd e hb
        · exact hb
    · rcases h with ⟨wy, v1, v2, v3, e1, e2, hw, hlt, hcur⟩ | h
      · subst e1 e2
        rw [enD_len] at hw
        have hb2 : wy.length ≤ ps.length := hw.len
        exact g_augI (z := ((n + 1 : Nat) : Int)) rfl ev_int (fun H Q q => ⟨_, _, rfl, rfl, by push_cast at q ⊢; exact q⟩) (g_jp ⟨ps.length - (n + 1), by omega, wy, n + 1, _, _, _, rfl, rfl, hw.next hlt, rfl⟩)
      · exact h.elim
  · have hend : getD? (wyD wy) q = getD? (wyD (wyAll ps es s)) q := by
      rw [Bool.and_eq_false_iff, decide_eq_false_iff_not, stD_len, List.length_map, Bool.not_eq_false', decide_eq_true_eq] at hb
      rcases hb with hb | hb
      · have hle := hw.le
        have hn : n = wy.length := by omega
        subst hn
        rw [hw.fin.eq]
      · obtain ⟨zs, hz⟩ := bfsJ_pre es (ps.length - n) n 0 wy
        rw [← hw.run, hz, wy_stays hb]
    exact g_ret hR (((ev_dgetN (ev_var rfl) (.ce 0 rfl) (ev_var rfl) (.ce 0 rfl)).less (List.nil_sublist _))) ⟨by rw [hend], rfl⟩
end
open Classical in
/-- the posts that s reaches, in order -/
noncomputable def rchL (ps : List Str) (es : List Ln) (s : Str) : List Str := ps.filter fun p => decide (Rch es s p)
def fdD (fs : List Str) : List (Key × D) := tbD D.bl (fs.map fun s => (s, true))
theorem fd_keys (fs : List Str) : keysT (fs.map fun s => (s, true)) = fs := by
  unfold keysT
  rw [List.map_map]
  exact List.map_id _
theorem fd_in (fs : List Str) (s : Str) : (getT (fdD fs) (.inr s)).isSome = decide (s ∈ fs) := by
  have := tb_in (f := D.bl) (fs.map fun s => (s, true)) s
  rw [fd_keys] at this
  exact this
theorem fd_put {fs : List Str} {s : Str} (h : ¬ s ∈ fs) : putT (fdD fs) (.inr s) (.bl true) = fdD (fs ++ [s]) := by
  have := tb_put (f := D.bl) (xs := fs.map fun s => (s, true)) (s := s) (v := true) (by rw [fd_keys]; exact h)
  unfold fdD
  rw [this, List.map_append]
  rfl
theorem fd_len (fs : List Str) : (fdD fs).length = fs.length := by
  unfold fdD
  rw [tbD_len, List.length_map]
structure FdOk (ps : List Str) (es : List Ln) (s : Str) (fs : List Str) : Prop where
  nd : fs.Nodup
  sub : ∀ p ∈ fs, p ∈ ps
  st : s ∈ fs
  rc : ∀ p ∈ fs, Rch es s p
theorem FdOk.add {ps : List Str} {es : List Ln} {s : Str} {fs : List Str} (h : FdOk ps es s fs) {r : Ln} (m : r ∈ es) (h1 : r.2.1 ∈ fs) (h2 : ¬ r.2.2 ∈ fs) (hp : r.2.2 ∈ ps) : FdOk ps es s (fs ++ [r.2.2]) := by
  refine ⟨?_, fun p q => ?_, List.mem_append_left _ h.st, fun p q => ?_⟩
  · rw [List.nodup_append]
    refine ⟨h.nd, List.nodup_cons.mpr ⟨List.not_mem_nil, List.nodup_nil⟩, fun x hx y hy z => h2 ?_⟩
    rw [List.mem_singleton.mp hy] at z
    rw [← z]; exact hx
  · rcases List.mem_append.mp q with q | q
    · exact h.sub p q
    · rw [List.mem_singleton.mp q]; exact hp
  · rcases List.mem_append.mp q with q | q
    · exact h.rc p q
    · rw [List.mem_singleton.mp q]; exact .step (h.rc _ h1) m rfl
theorem FdOk.fin {ps : List Str} {es : List Ln} {s : Str} {fs : List Str} (h : FdOk ps es s fs) (c : ∀ r ∈ es, r.2.1 ∈ fs → r.2.2 ∈ fs) : ps.filter (fun p => decide (p ∈ fs)) = rchL ps es s := by
  unfold rchL
  refine List.filter_congr fun p hp => ?_
  clear hp
  refine decide_eq_decide.mpr ⟨h.rc p, fun q => ?_⟩
  induction q with
  | refl => exact h.st
  | step _ m e ih => exact c _ m (by rw [e]; exact ih)
def ct_reached_posts (K : PySem.W.Frag) : Ct := Ct2 fun a b ka out => ∃ ps es s, a = .val (NetD K ps es) ∧ b = .val (.str s) ∧ s ∈ ps ∧ (∀ r ∈ es, r.2.2 ∈ ps) ∧ (lnN es).Nodup ∧ ps.length ≤ 1000 ∧ es.length ≤ 50000 ∧ ka = [] ∧ out = Rt (.tup (stD (rchL ps es s))) []
section
variable {P : Program} {w : World} {K : PySem.W.Frag} {mg : Str → Option Value} {base : Heap}
theorem ok_reached_posts (T : Tx K mg) : Fn P w K mg base 4 (He.ga K "reached_posts") ["net", "start"] (ct_reached_posts K) := by
  obtain ⟨fd, F⟩ := T.d_reached_posts
  refine fn_ok F sc_reached_posts (fun _ _ _ _ _ _ us hl => match us, hl with | [_, _], _ => rfl) ct2_len (fun cdv A outer s H E hr => ⟨_, (pss_cons (ps_set (i := 2) sc_reached_posts.nd rfl (by first | exact Or.inl rfl | exact Or.inr rfl) (pe_disp (pps_cons (pv 1) pe_bl pps_nil) rfl rfl (by simp) (by decide)))
      (pss_cons (ps_set (i := 3) sc_reached_posts.nd rfl (by first | exact Or.inl rfl | exact Or.inr rfl) pe_bl)
      (pss_cons (ps_while (passes_of rfl) (pt_val (pv 3)) (pss_cons (ps_set (i := 3) sc_reached_posts.nd rfl (by first | exact Or.inl rfl | exact Or.inr rfl) pe_bl)
      (pss_one (ps_lkS (ps_for (passes_of rfl) rfl (pi_keys (pe_fld (pv 0) rfl)) (pg_name (i := 4) sc_reached_posts.nd rfl (by first | exact Or.inl rfl | exact Or.inr rfl)) (pss_cons (ps_asg (pe_dget (hu1 hr) (pe_fld (pv 0) rfl) (pv 4) fun _ _ => rfl) (pg_tup rfl (pgs_cons (pg_name (i := 5) sc_reached_posts.nd rfl (by first | exact Or.inl rfl | exact Or.inr rfl)) (pgs_cons (pg_name (i := 6) sc_reached_posts.nd rfl (by first | exact Or.inl rfl | exact Or.inr rfl)) pgs_nil))))
      (pss_one (ps_if (PW.pt (pw_and (pt_cmp (pc_din (hu1 hr) (pv 5) (pv 2)) (by with_unfolding_all rfl)) (pw_and1 (pt_cmp (pc_dnotin (hu1 hr) (pv 6) (pv 2)) (by with_unfolding_all rfl)))))
      (pss_cons (ps_dput (hu1 hr) (pv 2) (pv 6) pe_bl rfl)
      (pss_one (ps_set (i := 3) sc_reached_posts.nd rfl (by first | exact Or.inl rfl | exact Or.inr rfl) pe_bl)))
      pss_nil))))))))
      (pss_one (ps_ret (pe_callTy call_tupU rfl T.n_tuple (by decide +kernel) (pa_cons (pe_lc (te := (tVar 7)) (tt := (tB (tDIn (tVar 7) (tVar 2)))) (own := [("post", 7)]) rfl sc_reached_posts.nd (pi_seq (pe_fld (pv 0) rfl)) (blk_ok ["net", "start", "found", "going", "lane", "first", "second", "post"] (defScope s_reached_posts) rfl rfl (by decide +kernel)) (fun _ _ _ _ _ => (pg_name (i := 7) sc_reached_posts.nd rfl (by first | exact Or.inl rfl | exact Or.inr rfl))) (fun _ _ _ _ _ => (pts_one (pt_cmp (pc_din (hu1 hr) (pv 7) (pv 2)) (by with_unfolding_all rfl)))) (fun _ _ _ _ _ => (pv 7))) pa_nil))))))), fun ws ka out B F0 Q hC hR hX => ?_⟩)
  obtain ⟨a, b, rfl, ps, es, s, rfl, rfl, hs, hps, hn, hl, hel, rfl, rfl⟩ := hC
  have fe : ∀ {ro : Ro} {ka : Cells}, ro[0]? = some (some (.val (NetD K ps es))) → EvD K (tFld K (tVar 0) "ends_by_lane") ro ka (.val (.dic (enD es))) ka := fun h => ev_fld (ev_var h) .v T.cl_Net T.na_Net_ends_by_lane rfl
  refine q_asgN (evn_disp1 (d := .bl true) (ev_var rfl) ev_bl) (fun a => ?_)
  refine q_asg ev_bl ?_
  refine q_while (fun m ro ka => ∃ (fs : List Str) (g : Bool) (v1 v2 v3 : Option W), ro = [some (.val (NetD K ps es)), some (.val (.str s)), some (.val (.adr a)), some (.val (.bl g)), v1, v2, v3, none] ∧ ka = [(a, .dic (fdD fs))] ∧ FdOk ps es s fs ∧ (g = false → ∀ r ∈ es, r.2.1 ∈ fs → r.2.2 ∈ fs) ∧ m = 2 * (ps.length - fs.length) + (if g = true then 1 else 0))
    _ ⟨[s], true, none, none, none, rfl, rfl, ⟨List.nodup_cons.mpr ⟨List.not_mem_nil, List.nodup_nil⟩, fun p q => by rw [List.mem_singleton.mp q]; exact hs, List.mem_singleton.mpr rfl, fun p q => by rw [List.mem_singleton.mp q]; exact .refl⟩, fun z => (by cases z), rfl⟩ (fun m ro2 ka2 ⟨fs, g, v1, v2, v3, e1, e2, hf, hc, hm⟩ => ?_)
  subst e1 e2
  refine ⟨_, _, et_B (ev_var rfl), fun hb => ?_, fun hb => ?_⟩
  · subst hb
    rw [if_pos rfl] at hm
    refine q_asg ev_bl ?_
    refine g_forK (evp_fld (evp_var rfl) T.cl_Net T.na_Net_ends_by_lane rfl) (fun i ro ka => ∃ (fs' : List Str) (g : Bool) (v1 v2 v3 : Option W), ro = [some (.val (NetD K ps es)), some (.val (.str s)), some (.val (.adr a)), some (.val (.bl g)), v1, v2, v3, none] ∧ ka = [(a, .dic (fdD fs'))] ∧ FdOk ps es s fs' ∧ ((g = false ∧ fs' = fs ∧ ∀ j r, j < i → es[j]? = some r → r.2.1 ∈ fs → r.2.2 ∈ fs) ∨ (g = true ∧ fs.length < fs'.length))) (fun _ _ => False)
      ⟨fs, false, v1, v2, v3, rfl, rfl, hf, .inl ⟨rfl, rfl, fun j r z => absurd z (Nat.not_lt_zero _)⟩⟩ (fun B' F1 rt' bk' ta' hrt hbk i kv ro2 ka2 hkv ⟨fs', g, v1, v2, v3, e1, e2, hf', hd⟩ => ?_) (fun ro2 ka2 h => ?_)
    · subst e1 e2
      obtain ⟨r, hr2, rfl⟩ := enD_at hkv
      have hmr := List.mem_of_getElem? hr2
      refine ⟨_, at_n, q_asgT (ev_dgetV (d := lnD r) (fe rfl) (ev_var rfl) .v (enD_get hn hr2)) at_t2 ?_⟩
      refine g_if (et_and (et_B ((ev_din (ev_var rfl) (ev_var rfl) (.ce 0 rfl)).to (by rw [fd_in]))) fun _ => et_B ((ev_dni (ev_var rfl) (ev_var rfl) (.ce 0 rfl)).to (by rw [fd_in]))) (fun hb => ?_) (fun hb => g_next (g_jp ⟨fs', g, _, _, _, rfl, rfl, hf', ?_⟩))
      · rw [Bool.and_eq_true, decide_eq_true_eq, Bool.not_eq_true', decide_eq_false_iff_not] at hb
        have hbig := sub_len hf'.nd hf'.sub
        refine q_dput (j := 0) (d := .bl true) ev_bl (ev_var rfl) (ev_var rfl) rfl (by rw [fd_len]; omega) ?_
        refine g_asg ev_bl (g_jp ⟨fs' ++ [r.2.2], true, _, _, _, rfl, ?_, hf'.add hmr hb.1 hb.2 (hps r hmr), .inr ⟨rfl, ?_⟩⟩)
        · rw [← fd_put hb.2]
          rfl
        · rw [List.length_append, List.length_singleton]
          rcases hd with ⟨_, e, _⟩ | ⟨_, e⟩
          · rw [e]; omega
          · omega
      · rcases hd with ⟨e1, e2, h3⟩ | h3
        · subst e2
          refine .inl ⟨e1, rfl, fun j r' hj hr' hin => ?_⟩
          by_cases q : j = i
          · subst q
            rw [hr2] at hr'
            cases hr'
            rw [Bool.and_eq_false_iff, decide_eq_false_iff_not, Bool.not_eq_false', decide_eq_true_eq] at hb
            exact hb.resolve_left fun z => z hin
          · exact h3 j r' (by omega) hr' hin
        · exact .inr h3
    · rcases h with ⟨fs', g, v1, v2, v3, e1, e2, hf', hd⟩ | h
      · subst e1 e2
        have hbig := sub_len hf'.nd hf'.sub
        refine g_jp ⟨2 * (ps.length - fs'.length) + (if g = true then 1 else 0), ?_, fs', g, v1, v2, v3, rfl, rfl, hf', fun hg r hr hin => ?_, rfl⟩
        · rcases hd with ⟨e1, e2, h3⟩ | ⟨e1, h3⟩
          · subst e1 e2
            rw [if_neg Bool.false_ne_true]; omega
          · subst e1
            rw [if_pos rfl]; omega
        · rcases hd with ⟨e1, e2, h3⟩ | ⟨e1, h3⟩
          · subst e2
            obtain ⟨k, hk, rfl⟩ := List.mem_iff_getElem.mp hr
            exact h3 k _ (by rw [enD_len]; exact hk) (List.getElem?_eq_getElem hk) hin
          · rw [hg] at e1; cases e1
      · exact h.elim
  · subst hb
    refine g_ret hR ((ev_cb (ea1 (evn_filt (xs := ps) (g := fun s => W.val (.str s)) (f := fun s => D.str s) (p := fun s => decide (s ∈ fs)) (ei_strs (ev_fld (ev_var rfl) .v T.cl_Net T.na_Net_order rfl)) (by decide) (by omega) ⟨trivial, fun _ => trivial⟩ (fun s hs => et_B ((ev_din (ev_var rfl) (ev_var rfl) (.ce 0 rfl)).to (by rw [fd_in]))) (fun s hs _ => ev_var rfl)).lst) (rc_tupL .vl (.inl rfl))).less (List.nil_sublist _)) ⟨?_, rfl⟩
    rw [hf.fin (hc rfl)]
    rfl
end
/-! ### parts, as told -/
noncomputable def mutL (ps : List Str) (es : List Ln) (p : Str) : List Str := (rchL ps es p).filter fun q => decide (p ∈ rchL ps es q)
def innL (es : List Ln) (qs : List Str) : List Str := lnN (es.filter fun r => decide (r.2.1 ∈ qs) && decide (r.2.2 ∈ qs))
/-- posts seen, parts told -/
abbrev PrS := List Str × List (List Str × List Str)
noncomputable def prStep (ps : List Str) (es : List Ln) (s : PrS) (p : Str) : PrS :=
  if p ∈ s.1 then s else (s.1 ++ mutL ps es p, if innL es (mutL ps es p) = [] then s.2 else s.2 ++ [(mutL ps es p, innL es (mutL ps es p))])
noncomputable def prL (ps : List Str) (es : List Ln) (xs : List Str) : PrS := xs.foldl (prStep ps es) ([], [])
def prD (rs : List (List Str × List Str)) : List D := rs.map fun r => .tup [.tup (stD r.1), .tup (stD r.2)]
theorem prL_snoc (ps : List Str) (es : List Ln) (xs : List Str) (x : Str) : prL ps es (xs ++ [x]) = prStep ps es (prL ps es xs) x := by
  unfold prL
  rw [List.foldl_append]
  rfl
theorem rchL_sub {ps : List Str} {es : List Ln} {p q : Str} (h : q ∈ rchL ps es p) : q ∈ ps := (List.mem_filter.mp h).1
theorem mutL_sub {ps : List Str} {es : List Ln} {p q : Str} (h : q ∈ mutL ps es p) : q ∈ ps := rchL_sub (List.mem_filter.mp h).1
theorem rchL_nd {ps : List Str} {es : List Ln} (h : ps.Nodup) (p : Str) : (rchL ps es p).Nodup := h.filter _
theorem mutL_nd {ps : List Str} {es : List Ln} (h : ps.Nodup) (p : Str) : (mutL ps es p).Nodup := (rchL_nd h p).filter _
theorem rchL_len (ps : List Str) (es : List Ln) (p : Str) : (rchL ps es p).length ≤ ps.length := List.length_filter_le _ _
theorem mutL_len (ps : List Str) (es : List Ln) (p : Str) : (mutL ps es p).length ≤ ps.length := Nat.le_trans (List.length_filter_le _ _) (rchL_len ps es p)
theorem innL_len (es : List Ln) (qs : List Str) : (innL es qs).length ≤ es.length := by
  unfold innL
  rw [lnN_len]
  exact List.length_filter_le _ _
theorem prL_len (ps : List Str) (es : List Ln) (xs : List Str) : (prL ps es xs).2.length ≤ xs.length := by
  suffices h : ∀ (xs : List Str) (s : PrS), (xs.foldl (prStep ps es) s).2.length ≤ s.2.length + xs.length from by
    have := h xs ([], [])
    simpa [prL] using this
  intro xs
  induction xs with
  | nil => intro s; exact Nat.le_refl _
  | cons x l ih =>
    intro s
    refine Nat.le_trans (ih _) ?_
    unfold prStep
    rw [List.length_cons]
    split
    · omega
    · dsimp only
      split
      · omega
      · rw [List.length_append, List.length_singleton]; omega
/-- keys put in, one behind another -/
def insA (fs qs : List Str) : List Str := qs.foldl (fun acc q => if q ∈ acc then acc else acc ++ [q]) fs
theorem fd_put2 (fs : List Str) (s : Str) : putT (fdD fs) (.inr s) (.bl true) = fdD (if s ∈ fs then fs else fs ++ [s]) := by
  by_cases h : s ∈ fs
  · rw [if_pos h]
    unfold putT
    have hh : hasT (fdD fs) (.inr s) = true := by
      rw [← getT_isSome, fd_in]
      exact decide_eq_true h
    rw [if_pos hh]
    unfold fdD tbD
    rw [List.map_map, List.map_map, List.map_map]
    refine List.map_congr_left fun x _ => ?_
    show newAt (Sum.inr s : Key) (D.bl true) (Sum.inr x, D.bl true) = (Sum.inr x, D.bl true)
    unfold newAt
    split <;> rfl
  · rw [if_neg h]
    exact fd_put h
theorem fd_merge (qs : List Str) : ∀ fs : List Str, mergeT (fdD fs) (fdD qs) = fdD (insA fs qs) := by
  induction qs with
  | nil => intro fs; rfl
  | cons q l ih =>
    intro fs
    have : mergeT (fdD fs) (fdD (q :: l)) = mergeT (putT (fdD fs) (.inr q) (.bl true)) (fdD l) := rfl
    rw [this, fd_put2, ih]
    rfl
theorem insA_mem (qs : List Str) : ∀ (fs : List Str) (x : Str), x ∈ insA fs qs ↔ x ∈ fs ∨ x ∈ qs := by
  induction qs with
  | nil => intro fs x; simp [insA]
  | cons q l ih =>
    intro fs x
    have : insA fs (q :: l) = insA (if q ∈ fs then fs else fs ++ [q]) l := rfl
    rw [this, ih, List.mem_cons]
    by_cases h : q ∈ fs
    · rw [if_pos h]
      constructor
      · rintro (a | a)
        · exact .inl a
        · exact .inr (.inr a)
      · rintro (a | a | a)
        · exact .inl a
        · exact .inl (a ▸ h)
        · exact .inr a
    · rw [if_neg h, List.mem_append, List.mem_singleton]
      constructor
      · rintro ((a | a) | a)
        · exact .inl a
        · exact .inr (.inl a)
        · exact .inr (.inr a)
      · rintro (a | a | a)
        · exact .inl (.inl a)
        · exact .inl (.inr a)
        · exact .inr a
theorem insA_nd (qs : List Str) : ∀ (fs : List Str), fs.Nodup → (insA fs qs).Nodup := by
  induction qs with
  | nil => intro fs h; exact h
  | cons q l ih =>
    intro fs h
    have : insA fs (q :: l) = insA (if q ∈ fs then fs else fs ++ [q]) l := rfl
    rw [this]
    refine ih _ ?_
    by_cases hq : q ∈ fs
    · rw [if_pos hq]; exact h
    · rw [if_neg hq, List.nodup_append]
      exact ⟨h, List.nodup_cons.mpr ⟨List.not_mem_nil, List.nodup_nil⟩, fun x hx y hy z => hq (by rw [List.mem_singleton.mp hy] at z; rw [← z]; exact hx)⟩
def rdD (f : Str → List Str) (xs : List Str) : List (Key × D) := tbD (fun q => .tup (stD q)) (xs.map fun p => (p, f p))
theorem rd_keys (f : Str → List Str) (xs : List Str) : keysT (xs.map fun p => (p, f p)) = xs := by
  unfold keysT
  rw [List.map_map]
  exact List.map_id _
theorem rd_get {f : Str → List Str} {xs : List Str} (h : xs.Nodup) {p : Str} (hp : p ∈ xs) : getT (rdD f xs) (.inr p) = some (.tup (stD (f p))) := tb_get (f := fun q => .tup (stD q)) (by rw [rd_keys]; exact h) (List.mem_map.mpr ⟨p, hp, rfl⟩)
theorem rd_put {f : Str → List Str} {xs : List Str} {p : Str} (h : ¬ p ∈ xs) : putT (rdD f xs) (.inr p) (.tup (stD (f p))) = rdD f (xs ++ [p]) := by
  have := tb_put (f := fun q => .tup (stD q)) (xs := xs.map fun p => (p, f p)) (s := p) (v := f p) (by rw [rd_keys]; exact h)
  unfold rdD
  rw [this, List.map_append]
  rfl
theorem fm_non (xs ys : List Str) : isNonD (fmD xs ys) = xs.all fun x => decide (x ∈ ys) := by
  unfold fmD
  cases h : xs.find? fun x => !decide (x ∈ ys) with
  | none =>
    rw [List.find?_eq_none] at h
    refine (List.all_eq_true.mpr fun x hx => ?_).symm
    have := h x hx
    simpa using this
  | some x =>
    have h1 := List.find?_some h
    have h2 := List.mem_of_find?_eq_some h
    refine (Bool.eq_false_iff.mpr fun z => ?_).symm
    have := List.all_eq_true.mp z x h2
    rw [this] at h1
    cases h1
open Classical in
theorem mutL_eq (ps : List Str) (es : List Ln) (p : Str) (hp : p ∈ ps) : ps.filter (fun q => decide (Rch es p q) && decide (Rch es q p)) = mutL ps es p := by
  unfold mutL
  rw [rchL, List.filter_filter]
  refine List.filter_congr fun q _ => ?_
  rw [Bool.and_comm]
  congr 1
  refine decide_eq_decide.mpr ?_
  unfold rchL
  rw [List.mem_filter, decide_eq_true_eq]
  exact ⟨fun h => ⟨hp, h⟩, fun h => h.2⟩
def ct_parts_of (K : PySem.W.Frag) : Ct := Ct1 fun a ka out => ∃ ps es, a = .val (NetD K ps es) ∧ ps.Nodup ∧ (∀ r ∈ es, r.2.2 ∈ ps) ∧ (lnN es).Nodup ∧ ps.length ≤ 1000 ∧ es.length ≤ 40000 ∧ ka = [] ∧ out = Nt (.lst (prD (prL ps es ps).2)) []
section
variable {P : Program} {w : World} {K : PySem.W.Frag} {mg : Str → Option Value} {base : Heap}
theorem ok_parts_of (T : Tx K mg) (F_first_missing : Fn P w K mg base 4 (He.ga K "first_missing") ["names", "known"] (ct_first_missing K)) (F_reached_posts : Fn P w K mg base 4 (He.ga K "reached_posts") ["net", "start"] (ct_reached_posts K)) : Fn P w K mg base 6 (He.ga K "parts_of") ["net"] (ct_parts_of K) := by
  obtain ⟨fd, F⟩ := T.d_parts_of
  refine fn_ok F sc_parts_of (fun _ _ _ _ _ _ us hl => match us, hl with | [_], _ => rfl) ct1_len (fun cdv A outer s H E hr => ⟨_, (pss_cons (ps_set (i := 2) sc_parts_of.nd rfl (by first | exact Or.inl rfl | exact Or.inr rfl) (pe_dc (tk := (tVar 1)) (tv := (tCall (spC K (ct_reached_posts K)) [] (fun _ _ _ => False) (tCons (tVar 0) (tCons (tVar 1) tNil)))) (tt := tYes) (own := [("post", 1)]) rfl sc_parts_of.nd (pi_seq (pe_fld (pv 0) rfl)) (blk_ok ["net", "post", "reached", "parts", "known", "other", "posts", "lane", "inner"] (defScope s_parts_of) rfl rfl (by decide +kernel)) (fun _ _ _ _ _ => (pg_name (i := 1) sc_parts_of.nd rfl (by first | exact Or.inl rfl | exact Or.inr rfl))) (fun _ _ _ _ _ => pts_nil) (fun _ _ _ _ _ => (pv 1)) (fun _ _ _ _ _ => (pe_call (F_reached_posts.up (by decide)).ok hr rfl T.g_reached_posts.1 T.g_reached_posts.2 (F_reached_posts.up (by decide)).bn .nil passes_no (pa_cons (pv 0) (pa_cons (pv 1) pa_nil))))))
      (pss_cons (ps_set (i := 3) sc_parts_of.nd rfl (by first | exact Or.inl rfl | exact Or.inr rfl) (pe_lst pa_nil))
      (pss_cons (ps_set (i := 4) sc_parts_of.nd rfl (by first | exact Or.inl rfl | exact Or.inr rfl) pe_dnewK)
      (pss_cons (ps_for (passes_of rfl) rfl (pi_seq (pe_fld (pv 0) rfl)) (pg_name (i := 1) sc_parts_of.nd rfl (by first | exact Or.inl rfl | exact Or.inr rfl)) (pss_one (ps_if (pt_cmp (pc_dnotin (hu1 hr) (pv 1) (pv 4)) (by with_unfolding_all rfl))
      (pss_cons (ps_set (i := 6) sc_parts_of.nd rfl (by first | exact Or.inl rfl | exact Or.inr rfl) (pe_callTy call_tupU rfl T.n_tuple (by decide +kernel) (pa_cons (pe_lc (te := (tVar 5)) (tt := (tTest (tOp (rInU K) (tVar 1) (tDGet (tVar 2) (tVar 5))))) (own := [("other", 5)]) rfl sc_parts_of.nd (pi_seq (pe_dget (hu1 hr) (pv 2) (pv 1) fun _ _ => rfl)) (blk_ok ["net", "post", "reached", "parts", "known", "other", "posts", "lane", "inner"] (defScope s_parts_of) rfl rfl (by decide +kernel)) (fun _ _ _ _ _ => (pg_name (i := 5) sc_parts_of.nd rfl (by first | exact Or.inl rfl | exact Or.inr rfl))) (fun _ _ _ _ _ => (pts_one (pt_cmpR op_inU (pv 1) (pe_dget (hu1 hr) (pv 2) (pv 5) fun _ _ => rfl) (by with_unfolding_all rfl)))) (fun _ _ _ _ _ => (pv 5))) pa_nil)))
      (pss_cons (ps_expr (pe_bm PySem.F.plainAttrs_dict PySem.F.slot_dict_update PySem.F.type_dict_update mt_dupd (pv 4) (pa_cons (pe_dc (tk := (tVar 5)) (tv := (tC (.bl true))) (tt := tYes) (own := [("other", 5)]) rfl sc_parts_of.nd (pi_seq (pv 6)) (blk_ok ["net", "post", "reached", "parts", "known", "other", "posts", "lane", "inner"] (defScope s_parts_of) rfl rfl (by decide +kernel)) (fun _ _ _ _ _ => (pg_name (i := 5) sc_parts_of.nd rfl (by first | exact Or.inl rfl | exact Or.inr rfl))) (fun _ _ _ _ _ => pts_nil) (fun _ _ _ _ _ => (pv 5)) (fun _ _ _ _ _ => pe_bl)) pa_nil)))
      (pss_cons (ps_lkS (ps_setLc (i := 8) (te := (tVar 7)) (tt := (tTest (tOp rIsN (tCall (spC K (ct_first_missing K)) [] (fun _ _ _ => False) (tCons (tDGet (tFld K (tVar 0) "ends_by_lane") (tVar 7)) (tCons (tVar 6) tNil))) (tC .non)))) (own := [("lane", 7)]) rfl sc_parts_of.nd rfl rfl rfl (pi_keys (pe_fld (pv 0) rfl)) (blk_ok ["net", "post", "reached", "parts", "known", "other", "posts", "lane", "inner"] (defScope s_parts_of) rfl rfl (by decide +kernel)) (fun _ _ _ _ _ => (pg_name (i := 7) sc_parts_of.nd rfl (by first | exact Or.inl rfl | exact Or.inr rfl))) (fun _ _ _ _ _ => (pts_one (pt_cmpR op_isN1 (pe_call (F_first_missing.up (by decide)).ok hr rfl T.g_first_missing.1 T.g_first_missing.2 (F_first_missing.up (by decide)).bn .nil passes_no (pa_cons (pe_dget (hu1 hr) (pe_fld (pv 0) rfl) (pv 7) fun _ _ => rfl) (pa_cons (pv 6) pa_nil))) pe_non (nomark _)))) (fun _ _ _ _ _ => (pv 7))))
      (pss_one (ps_if (pt_cmpR (op_neP (by have := (hr).units; exact this)) (pv 8) (pe_lst pa_nil) (nomark _))
      (pss_one (ps_expr (pe_bm PySem.F.plainAttrs_list PySem.F.slot_list_append PySem.F.type_list_append mt_append (pv 3) (pa_cons (pe_tup (pa_cons (pv 6) (pa_cons (pe_callTy call_tupU rfl T.n_tuple (by decide +kernel) (pa_cons (pv 8) pa_nil)) pa_nil))) pa_nil))))
      pss_nil)))))
      pss_nil)))
      (pss_one (ps_ret (pv 3))))))), fun ws ka out B F0 Q hC hR hX => ?_⟩)
  obtain ⟨a, rfl, ps, es, rfl, hnd, hps, hn, hl, hel, rfl, rfl⟩ := hC
  have fo : ∀ {ro : Ro} {ka : Cells}, ro[0]? = some (some (.val (NetD K ps es))) → EvD K (tFld K (tVar 0) "order") ro ka (.val (.lst (stD ps))) ka := fun h => ev_fld (ev_var h) .v T.cl_Net T.na_Net_order rfl
  have fe : ∀ {ro : Ro} {ka : Cells}, ro[0]? = some (some (.val (NetD K ps es))) → EvD K (tFld K (tVar 0) "ends_by_lane") ro ka (.val (.dic (enD es))) ka := fun h => ev_fld (ev_var h) .v T.cl_Net T.na_Net_ends_by_lane rfl
  refine q_asgNR (evr_dc (ei_strs (fo rfl)) (by decide) (by rw [List.length_map]; omega) (fun i acc k => acc = rdD (rchL ps es) (ps.take i) ∧ k = []) ⟨rfl, rfl⟩ (fun i acc k _ => ⟨trivial, fun _ => trivial⟩) (fun i w acc k hw ⟨e1, e2⟩ => ?_)) ?_
  · subst e1 e2
    rw [List.getElem?_map] at hw
    obtain ⟨p, hp, rfl⟩ := Option.map_eq_some_iff.mp hw
    refine .inr ⟨_, _, _, .inr p, _, et_yes, ev_var rfl, ev_callP (ea2 (ev_var rfl) (ev_var rfl)) ⟨_, _, rfl, ps, es, p, rfl, rfl, List.mem_of_getElem? hp, hps, hn, hl, by omega, rfl, rfl⟩, ?_, rfl⟩
    rw [rd_put (not_take hnd hp), take_succ_some hp]
  rintro n k a ⟨acc, rfl, rfl, rfl⟩
  rw [List.length_map, List.take_length]
  refine Gp.frzK (kr := []) (i := 2) rfl (List.Perm.refl _) ?_
  refine q_asgN (evn_lst (ds := []) ea_nil (by decide)) (fun b => ?_)
  refine q_asgN evn_dnew (fun c => ?_)
  refine q_forn (ei_strs (fo rfl)) (fun i ro ka => ∃ (kn : List Str) (v v1 v2 v3 v4 : Option W), ro = [some (.val (NetD K ps es)), v, some (.val (.dic (rdD (rchL ps es) ps))), some (.val (.adr b)), some (.val (.adr c)), v1, v2, v3, v4] ∧ ka = [(b, .lst (prD (prL ps es (ps.take i)).2)), (c, .dic (fdD kn))] ∧ kn.Nodup ∧ (∀ x ∈ kn, x ∈ ps) ∧ ∀ x, x ∈ kn ↔ x ∈ (prL ps es (ps.take i)).1)
    ⟨[], _, _, _, _, _, rfl, rfl, List.nodup_nil, fun x h => (by cases h), fun x => Iff.rfl⟩ (fun i ro ka _ => trivial) (fun i w ro2 ka2 ta' hw ⟨kn, v, v1, v2, v3, v4, e1, e2, hk1, hk2, hk3⟩ => ?_) (fun ro2 ka2 ta' ⟨kn, v, v1, v2, v3, v4, e1, e2, hk1, hk2, hk3⟩ _ => ?_)
  · subst e1 e2
    rw [List.getElem?_map] at hw
    obtain ⟨p, hp, rfl⟩ := Option.map_eq_some_iff.mp hw
    have hm := List.mem_of_getElem? hp
    have hkl := sub_len hk1 hk2
    have hpl := prL_len ps es (ps.take i)
    rw [List.length_take] at hpl
    refine g_if (et_B ((ev_dni (ev_var rfl) (ev_var rfl) (.ce 1 rfl)).to (by rw [fd_in]))) (fun hb => ?_) (fun hb => g_next (g_jp ⟨kn, _, _, _, _, _, rfl, ?_, hk1, hk2, ?_⟩))
    · rw [Bool.not_eq_true', decide_eq_false_iff_not] at hb
      have hb2 : ¬ p ∈ (prL ps es (ps.take i)).1 := fun z => hb ((hk3 p).mpr z)
      have hml := mutL_len ps es p
      refine q_asg (ev_cb (ea1 (evn_filt (xs := rchL ps es p) (g := fun s => W.val (.str s)) (f := fun s => D.str s) (p := fun q => decide (p ∈ rchL ps es q)) (ei_strsL (ev_dgetV (ev_var rfl) (ev_var rfl) .v (rd_get hnd hm)) .vt) (by decide) (by have := rchL_len ps es p; omega) ⟨trivial, fun _ => trivial⟩ (fun q hq => et_test (ev_inL (ev_var rfl) (ev_dgetV (ev_var rfl) (ev_var rfl) .v (rd_get hnd (rchL_sub hq))) .vt)) (fun q hq _ => ev_var rfl)).lst) (rc_tupL .vl (.inl rfl))) ?_
      refine q_dupd (j := 1) (ms := fdD (mutL ps es p)) (ev_var rfl) ⟨1, _, rfl⟩ ((evr_dc (ei_strsL (ss := mutL ps es p) (ev_var rfl) .vt) (by decide) (by rw [List.length_map]; omega) (fun i acc k => acc = fdD ((mutL ps es p).take i) ∧ k = _) ⟨rfl, rfl⟩ (fun i acc k _ => ⟨trivial, fun _ => trivial⟩) (fun j w acc k hw2 ⟨e1, e2⟩ => ?dcs)).dicD fun n k ⟨acc, e1, e2, e3⟩ => ⟨?dce, e3⟩) rfl (by rw [fd_len, fd_len]; omega) ?dsz ?dgo
      case dcs =>
        subst e1 e2
        rw [List.getElem?_map] at hw2
        obtain ⟨q, hq, rfl⟩ := Option.map_eq_some_iff.mp hw2
        refine .inr ⟨_, _, _, .inr q, .bl true, et_yes, ev_var rfl, ev_bl, ?_, rfl⟩
        rw [fd_put (not_take (mutL_nd hnd p) hq), take_succ_some hq]
      case dce => rw [e1, e2, List.length_map, List.take_length]
      case dsz =>
        rw [fd_merge, fd_len]
        have := sub_len (insA_nd (mutL ps es p) kn hk1) (ys := ps) fun x hx => ((insA_mem _ _ _).mp hx).elim (hk2 x) mutL_sub
        omega
      case dgo =>
      rw [fd_merge]
      refine q_asgLk (evr_lcK (evp_fld (evp_var rfl) T.cl_Net T.na_Net_ends_by_lane rfl) (by decide) (by rw [enD_len]; omega) (fun i acc k => acc = stD (innL (es.take i) (mutL ps es p)) ∧ k = _) ⟨rfl, rfl⟩ (fun j kv acc k hkv ⟨e1, e2⟩ => ?_)) (fun n k d ⟨acc, e1, e2, e3⟩ => ?_)
      · subst e1 e2
        obtain ⟨r, hr2, rfl⟩ := enD_at hkv
        have hin : innL (es.take (j + 1)) (mutL ps es p) = innL (es.take j) (mutL ps es p) ++ (if (decide (r.2.1 ∈ mutL ps es p) && decide (r.2.2 ∈ mutL ps es p)) = true then [r.1] else []) := by
          unfold innL lnN
          rw [take_succ_some hr2, List.filter_append, List.map_append]
          congr 1
          rw [List.filter_cons]
          split <;> rfl
        have hfn : isNonD (fmD [r.2.1, r.2.2] (mutL ps es p)) = (decide (r.2.1 ∈ mutL ps es p) && decide (r.2.2 ∈ mutL ps es p)) := by rw [fm_non]; simp
        cases hb3 : (decide (r.2.1 ∈ mutL ps es p) && decide (r.2.2 ∈ mutL ps es p)) with
        | false =>
          refine .inl ⟨_, (et_test (ev_isN (ev_callP (ea2 (ev_dgetV (d := lnD r) (fe rfl) (ev_var rfl) .v (enD_get hn hr2)) (ev_var rfl)) ⟨_, _, rfl, [r.2.1, r.2.2], mutL ps es p, true, false, .vt, .sq .vt, rfl⟩))).to (hfn.trans hb3), ?_, rfl⟩
          rw [hin, hb3, if_neg Bool.false_ne_true, List.append_nil]
        | true =>
          refine .inr ⟨_, _, .str r.1, (et_test (ev_isN (ev_callP (ea2 (ev_dgetV (d := lnD r) (fe rfl) (ev_var rfl) .v (enD_get hn hr2)) (ev_var rfl)) ⟨_, _, rfl, [r.2.1, r.2.2], mutL ps es p, true, false, .vt, .sq .vt, rfl⟩))).to (hfn.trans hb3), ev_var rfl, ?_, rfl⟩
          rw [hin, hb3, if_pos rfl]
          exact stD_app _ [r.1]
      · subst e1 e2 e3
        rw [enD_len, List.take_length]
        have hil := innL_len es (mutL ps es p)
        have hst : prL ps es (ps.take (i + 1)) = ((prL ps es (ps.take i)).1 ++ mutL ps es p, if innL es (mutL ps es p) = [] then (prL ps es (ps.take i)).2 else (prL ps es (ps.take i)).2 ++ [(mutL ps es p, innL es (mutL ps es p))]) := by
          rw [take_succ_some hp, prL_snoc]
          unfold prStep
          rw [if_neg hb2]
        have hkn : (insA kn (mutL ps es p)).Nodup ∧ (∀ x ∈ insA kn (mutL ps es p), x ∈ ps) ∧ ∀ x, x ∈ insA kn (mutL ps es p) ↔ x ∈ (prL ps es (ps.take (i + 1))).1 := by
          refine ⟨insA_nd _ _ hk1, fun x hx => ((insA_mem _ _ _).mp hx).elim (hk2 x) mutL_sub, fun x => ?_⟩
          rw [insA_mem, hst]
          show _ ↔ x ∈ _ ++ _
          rw [List.mem_append, hk3]
        refine Gp.frz (i := 8) (j := 2) rfl rfl ?_
        refine g_if (b := !decide (innL es (mutL ps es p) = [])) ((et_test (ev_ne (d := .lst (stD (innL es (mutL ps es p)))) (e := .lst []) (ev_var rfl) (evn_lst (ds := []) ea_nil (by decide)).lst .v .v (pl_stD _ 60) rfl)).to ?bb) (fun hb => ?ap) (fun hb => g_next (g_jp ⟨insA kn (mutL ps es p), _, _, _, _, _, rfl, ?no, hkn⟩))
        case bb =>
          cases innL es (mutL ps es p) with
          | nil => rfl
          | cons _ _ => rfl
        case ap =>
          rw [Bool.not_eq_true', decide_eq_false_iff_not] at hb
          refine g_app (j0 := 0) (j := 0) (d := .tup [.tup (stD (mutL ps es p)), .tup (stD (innL es (mutL ps es p)))]) (ev_var rfl) rfl (ev_tup (ds := [.tup (stD (mutL ps es p)), .tup (stD (innL es (mutL ps es p)))]) (ea2 (ev_var rfl) (ev_cb (ea1 (ev_var rfl)) (rc_tupL .vl (.inl rfl)))) (show 2 ≤ 100000 by decide)) rfl (by unfold prD; rw [List.length_map]; omega) (g_jp ⟨insA kn (mutL ps es p), _, _, _, _, _, rfl, ?_, hkn⟩)
          rw [hst]
          show _ = [(b, Nd.lst (prD (if innL es (mutL ps es p) = [] then _ else _))), _]
          rw [if_neg hb]
          unfold prD
          rw [List.map_append]
          rfl
        case no =>
          rw [Bool.not_eq_false', decide_eq_true_eq] at hb
          rw [hst]
          show _ = [(b, Nd.lst (prD (if innL es (mutL ps es p) = [] then _ else _))), _]
          rw [if_pos hb]
          rfl
    · rw [Bool.not_eq_false', decide_eq_true_eq] at hb
      have : prL ps es (ps.take (i + 1)) = prL ps es (ps.take i) := by
        rw [take_succ_some hp, prL_snoc]
        unfold prStep
        rw [if_pos ((hk3 p).mp hb)]
      rw [this]
    · rw [Bool.not_eq_false', decide_eq_true_eq] at hb
      have : prL ps es (ps.take (i + 1)) = prL ps es (ps.take i) := by
        rw [take_succ_some hp, prL_snoc]
        unfold prStep
        rw [if_pos ((hk3 p).mp hb)]
      rw [this]
      exact hk3
  · subst e1 e2
    rw [List.length_map, List.take_length]
    exact Gp.less (k1 := [(b, .lst (prD (prL ps es ps).2))]) (g_ret hR (ev_var rfl) ⟨b, rfl, rfl⟩) (List.Sublist.cons₂ _ (List.nil_sublist _))
end
def prE (r : List Str × List Str) : D := .tup [.tup (stD r.1), .tup (stD r.2)]
/-- the part with all of ws as inner lanes -/
noncomputable def pwF (ps : List Str) (es : List Ln) (ws : List Str) : Option (List Str × List Str) := (prL ps es ps).2.find? fun r => ws.all fun x => decide (x ∈ r.2)
noncomputable def pwD (ps : List Str) (es : List Ln) (ws : List Str) : D := match pwF ps es ws with
  | some r => prE r
  | none => .non
def ct_part_with (K : PySem.W.Frag) : Ct := Ct2 fun a b ka out => ∃ ps es ws t, a = .val (NetD K ps es) ∧ Lk [] b t (stD ws) false ∧ ps.Nodup ∧ (∀ r ∈ es, r.2.2 ∈ ps) ∧ (lnN es).Nodup ∧ ps.length ≤ 1000 ∧ es.length ≤ 40000 ∧ ka = [] ∧ out = Rt (pwD ps es ws) []
section
variable {P : Program} {w : World} {K : PySem.W.Frag} {mg : Str → Option Value} {base : Heap}
theorem ok_part_with (T : Tx K mg) (F_first_missing : Fn P w K mg base 4 (He.ga K "first_missing") ["names", "known"] (ct_first_missing K)) (F_parts_of : Fn P w K mg base 6 (He.ga K "parts_of") ["net"] (ct_parts_of K)) : Fn P w K mg base 8 (He.ga K "part_with") ["net", "wanted"] (ct_part_with K) := by
  obtain ⟨fd, F⟩ := T.d_part_with
  refine fn_ok F sc_part_with (fun _ _ _ _ _ _ us hl => match us, hl with | [_, _], _ => rfl) ct2_len (fun cdv A outer s H E hr => ⟨_, (pss_cons (ps_for (passes_of rfl) rfl (pi_seq (pe_call (F_parts_of.up (by decide)).ok hr rfl T.g_parts_of.1 T.g_parts_of.2 (F_parts_of.up (by decide)).bn .nil (pass_own rfl rfl rfl rfl) (pa_cons (pv 0) pa_nil))) (pg_name (i := 2) sc_part_with.nd rfl (by first | exact Or.inl rfl | exact Or.inr rfl)) (pss_one (ps_if (pt_cmpR op_isN1 (pe_call (F_first_missing.up (by decide)).ok hr rfl T.g_first_missing.1 T.g_first_missing.2 (F_first_missing.up (by decide)).bn .nil (pass_own rfl rfl rfl rfl) (pa_cons (pv 1) (pa_cons (pe_ix ix_seq (pv 2) pe_int fun _ _ => rfl) pa_nil))) pe_non (nomark _))
      (pss_one (ps_ret (pv 2)))
      pss_nil)))
      (pss_one (ps_ret pe_non))), fun ws ka out B F0 Q hC hR hX => ?_⟩)
  obtain ⟨a, b, rfl, ps, es, ws, t, rfl, lb, hnd, hps, hn, hl, hel, rfl, rfl⟩ := hC
  have hpd : prD (prL ps es ps).2 = (prL ps es ps).2.map prE := rfl
  have hpw : pwD ps es ws = match (prL ps es ps).2.find? (fun r => ws.all fun x => decide (x ∈ r.2)) with | some r => prE r | none => .non := rfl
  have fo : EvD K (tCall (spC K (ct_parts_of K)) [] E (tCons (tVar 0) tNil)) [some (.val (NetD K ps es)), some b, none] [] (.val (.lst ((prL ps es ps).2.map prE))) [] := (evn_callP (ea1 (ev_var rfl)) ⟨_, rfl, ps, es, rfl, hnd, hps, hn, hl, hel, rfl, rfl⟩).lst
  rw [hpw] at hR
  generalize (prL ps es ps).2 = rs at *
  refine q_forn (ei_map (ts := rs) (f := prE) fo) (fun i ro ka => ∃ v, ro = [some (.val (NetD K ps es)), some b, v] ∧ ka = [] ∧ ∀ r ∈ rs.take i, (ws.all fun x => decide (x ∈ r.2)) = false) ⟨none, rfl, rfl, fun y hy => by cases hy⟩ (fun i ro ka _ => trivial) (fun i w ro2 ka2 ta' hw ⟨v, e1, e2, hs⟩ => ?_) (fun ro2 ka2 ta' ⟨v, e1, e2, hs⟩ _ => ?_)
  · subst e1 e2
    rw [List.getElem?_map] at hw
    obtain ⟨r, hr, rfl⟩ := Option.map_eq_some_iff.mp hw
    refine g_if ((et_test (ev_isN (d := fmD ws r.2) (ev_callP (ea2 (ev_var rfl) (ev_ixV (ev_var rfl) ev_int .vt (atI_nat (j := 1) rfl))) ⟨_, _, rfl, ws, r.2, t, false, lb, .sq .vt, rfl⟩) (.inl rfl))).to (by rw [fm_none])) (fun hb => ?_) (fun hb => g_next (g_jp ⟨_, rfl, rfl, fun y hy => ?_⟩))
    · rw [find_first hs hr hb] at hR
      exact g_ret hR (ev_var rfl) ⟨rfl, rfl⟩
    · rw [take_succ_some hr] at hy
      rcases List.mem_append.mp hy with hy | hy
      · exact hs y hy
      · rw [List.mem_singleton.mp hy]; exact hb
  · subst e1 e2
    rw [List.length_map, List.take_length] at hs
    rw [find_none hs] at hR
    exact g_ret hR ev_non ⟨rfl, rfl⟩
end
open Classical in
theorem in_rchL {ps : List Str} {es : List Ln} {p q : Str} : q ∈ rchL ps es p ↔ q ∈ ps ∧ Rch es p q := by
  unfold rchL
  rw [List.mem_filter, decide_eq_true_eq]
/-- a lane from the end of one row no way to the start of the other -/
noncomputable def noB (es : List Ln) (r s : Ln) : Bool := !decide (s.2.1 ∈ rchL (es.map fun x => x.2.1) es r.2.2)
theorem noB_iff {es : List Ln} {r s : Ln} (hs : s ∈ es) : noB es r s = true ↔ ¬ Rch es r.2.2 s.2.1 := by
  unfold noB
  rw [Bool.not_eq_true', decide_eq_false_iff_not]
  exact not_congr ⟨fun h => (in_rchL.mp h).2, fun h => in_rchL.mpr ⟨List.mem_map.mpr ⟨s, hs, rfl⟩, h⟩⟩
/-- the first two of some lanes with no way from the one to the other -/
noncomputable def noP (es gr : List Ln) : Option (Ln × Ln) := gr.findSome? fun r => (gr.find? (noB es r)).map fun s => (r, s)
/-- what is raised then -/
def nrO (K : PySem.W.Frag) (ps : List Str) (es : List Ln) (x : Ln × Ln) : Oc := Xt (He.ga K "NoRound") [("side", .tup (stD (rchL ps es x.1.2.2))), ("second", .str x.2.1), ("first", .str x.1.1)] []
/-- wanted lanes that lie in no part -/
structure NoR (ps : List Str) (es gr : List Ln) (x : Ln × Ln) : Prop where
  nd : ps.Nodup
  st : ∀ r ∈ es, r.2.1 ∈ ps ∧ r.2.2 ∈ ps
  ed : (lnN es).Nodup
  pl : ps.length ≤ 1000
  el : es.length ≤ 1000
  sub : ∀ r ∈ gr, r ∈ es
  gl : gr.length ≤ 1000
  no : pwF ps es (lnN gr) = none
  at_ : noP es gr = some x
theorem noP_none {es gr : List Ln} (h : ∀ r ∈ gr, gr.find? (noB es r) = none) : noP es gr = none :=
  List.findSome?_eq_none_iff.mpr fun r hr => by rw [h r hr]; rfl
theorem noP_at {es gr : List Ln} {i : Nat} {r s : Ln} (h : ∀ r ∈ gr.take i, gr.find? (noB es r) = none) (hi : gr[i]? = some r) (hs : gr.find? (noB es r) = some s) : noP es gr = some (r, s) := by
  obtain ⟨hl, e⟩ := List.getElem?_eq_some_iff.mp hi
  have e2 : gr = gr.take i ++ r :: gr.drop (i + 1) := by
    rw [← e, List.getElem_cons_drop, List.take_append_drop]
  unfold noP
  generalize hg : (fun r => (gr.find? (noB es r)).map fun s => (r, s)) = g
  have g1 : ∀ r ∈ gr.take i, g r = none := fun r hr => by rw [← hg]; show Option.map _ _ = _; rw [h r hr]; rfl
  have g2 : g r = some (r, s) := by rw [← hg]; show Option.map _ _ = _; rw [hs]; rfl
  rw [e2, List.findSome?_append, List.findSome?_eq_none_iff.mpr g1, Option.none_or, List.findSome?_cons, g2]
def ct_found_part (K : PySem.W.Frag) : Ct := Ct2 fun a b ka out => (∃ ps es ws t r, a = .val (NetD K ps es) ∧ Lk [] b t (stD ws) false ∧ ps.Nodup ∧ (∀ r ∈ es, r.2.2 ∈ ps) ∧ (lnN es).Nodup ∧ ps.length ≤ 1000 ∧ es.length ≤ 40000 ∧ pwF ps es ws = some r ∧ ka = [] ∧ out = Rt (prE r) []) ∨
  (∃ ps es gr x, a = .val (NetD K ps es) ∧ b = .val (.tup (stD (lnN gr))) ∧ NoR ps es gr x ∧ ka = [] ∧ out = nrO K ps es x)
section
variable {P : Program} {w : World} {K : PySem.W.Frag} {mg : Str → Option Value} {base : Heap}
theorem ok_found_part (T : Tx K mg) (F_Net_start_of : Fn P w K mg base 4 (He.ma K (He.ga K "Net") "start_of") ["self", "lane"] (ct_Net_start_of K)) (F_Net_end_of : Fn P w K mg base 4 (He.ma K (He.ga K "Net") "end_of") ["self", "lane"] (ct_Net_end_of K)) (F_reached_posts : Fn P w K mg base 4 (He.ga K "reached_posts") ["net", "start"] (ct_reached_posts K)) (F_part_with : Fn P w K mg base 8 (He.ga K "part_with") ["net", "wanted"] (ct_part_with K)) (Z_NoRound : X3 P w K mg base (He.ga K "NoRound") "first" "second" "side") : Fn P w K mg base 10 (He.ga K "found_part") ["net", "wanted"] (ct_found_part K) := by
  obtain ⟨fd, F⟩ := T.d_found_part
  refine fn_ok F sc_found_part (fun _ _ _ _ _ _ us hl => match us, hl with | [_, _], _ => rfl) ct2_len (fun cdv A outer s H E hr => ⟨_, (pss_cons (ps_set (i := 2) sc_found_part.nd rfl (by first | exact Or.inl rfl | exact Or.inr rfl) (pe_call (F_part_with.up (by decide)).ok hr rfl T.g_part_with.1 T.g_part_with.2 (F_part_with.up (by decide)).bn .nil (pass_own rfl rfl rfl rfl) (pa_cons (pv 0) (pa_cons (pv 1) pa_nil))))
      (pss_cons (ps_if (pt_cmpR op_notN1 (pv 2) pe_non (nomark _))
      (pss_one (ps_ret (pv 2)))
      pss_nil)
      (pss_cons (ps_for (passes_of rfl) rfl (pi_seq (pv 1)) (pg_name (i := 3) sc_found_part.nd rfl (by first | exact Or.inl rfl | exact Or.inr rfl)) (pss_cons (ps_set (i := 4) sc_found_part.nd rfl (by first | exact Or.inl rfl | exact Or.inr rfl) (pe_call (F_reached_posts.up (by decide)).ok hr rfl T.g_reached_posts.1 T.g_reached_posts.2 (F_reached_posts.up (by decide)).bn .nil (pass_own rfl rfl rfl rfl) (pa_cons (pv 0) (pa_cons (pe_meth (pv 0) T.cl_Net T.me_Net_end_of (F_Net_end_of.up (by decide)).ok hr (F_Net_end_of.up (by decide)).bn .nil (pass_own rfl rfl rfl rfl) (pa_cons (pv 3) pa_nil)) pa_nil))))
      (pss_one (ps_for (passes_of rfl) rfl (pi_seq (pv 1)) (pg_name (i := 5) sc_found_part.nd rfl (by first | exact Or.inl rfl | exact Or.inr rfl)) (pss_one (ps_if (pt_cmpR op_niU (pe_meth (pv 0) T.cl_Net T.me_Net_start_of (F_Net_start_of.up (by decide)).ok hr (F_Net_start_of.up (by decide)).bn .nil (pass_own rfl rfl rfl rfl) (pa_cons (pv 5) pa_nil)) (pv 4) (by with_unfolding_all rfl))
      (pss_one (ps_raise rfl (takes_of rfl rfl rfl rfl) (pmk_oex Z_NoRound.xc.oex Z_NoRound.all.1 Z_NoRound.all.2.1 Z_NoRound.all.2.2.1 (hr.mono (by decide)) Z_NoRound.all.2.2.2 .nil passes_no rfl T.g_NoRound.1 (pa_cons (pv 3) (pa_cons (pv 5) (pa_cons (pv 4) pa_nil))))))
      pss_nil))))))
      (pss_one (ps_ret pe_non))))), fun ws ka out B F0 Q hC hR hX => ?_⟩)
  obtain ⟨a, b, rfl, ⟨ps, es, ws, t, r, rfl, lb, hnd, hps, hn, hl, hel, hf, rfl, rfl⟩ | ⟨ps, es, gr, x, rfl, rfl, N, rfl, rfl⟩⟩ := hC
  · refine q_asg (w := .val (prE r)) ((ev_callP (ea2 (ev_var rfl) (ev_var rfl)) ⟨_, _, rfl, ps, es, ws, t, rfl, lb, hnd, hps, hn, hl, hel, rfl, rfl⟩).to (by unfold pwD; rw [hf])) ?_
    exact q_when ((et_test (ev_notN (d := prE r) (ev_var rfl) (.inl rfl))).to (b := true) rfl) (fun _ => g_ret hR (ev_var rfl) ⟨rfl, rfl⟩) (fun z => by cases z)
  have hps : ∀ r ∈ es, r.2.2 ∈ ps := fun r hr => (N.st r hr).2
  have hl := N.pl
  have hel := N.el
  have hgl := N.gl
  have hn := N.ed
  refine q_asg (w := .val .non) ((ev_callP (ea2 (ev_var rfl) (ev_var rfl)) ⟨_, _, rfl, ps, es, lnN gr, true, rfl, .vt, N.nd, hps, hn, by omega, by omega, rfl, rfl⟩).to (by unfold pwD; rw [N.no])) ?_
  refine q_when ((et_test (ev_notN (d := .non) (ev_var rfl) (.inl rfl))).to (b := false) rfl) (fun z => by cases z) (fun _ => ?_)
  refine q_forn (ei_strsL (ev_var rfl) .vt) (fun i ro ka => ∃ v3 v4 v5, ro = [some (.val (NetD K ps es)), some (.val (.tup (stD (lnN gr)))), some (.val .non), v3, v4, v5] ∧ ka = [] ∧ ∀ r ∈ gr.take i, gr.find? (noB es r) = none) ⟨_, _, _, rfl, rfl, fun r hr => by rw [List.take_zero] at hr; cases hr⟩ (fun _ _ _ _ => trivial) (fun i w ro2 ka2 ta2 hw ⟨v3, v4, v5, e1, e2, hs⟩ => ?_) (fun ro2 ka2 ta2 ⟨v3, v4, v5, e1, e2, hs⟩ hta => ?_)
  rotate_left
  · rw [List.length_map, lnN_len, List.take_length] at hs
    have := N.at_
    rw [noP_none hs] at this
    cases this
  subst e1 e2
  rw [List.getElem?_map, show lnN gr = gr.map fun r => r.1 from rfl, List.getElem?_map, Option.map_map] at hw
  obtain ⟨r, hr, rfl⟩ := Option.map_eq_some_iff.mp hw
  have mr := List.mem_of_getElem? hr
  have hre := N.sub r mr
  have ends : ∀ {ro : Ro}, ro[0]? = some (some (.val (NetD K ps es))) → ro[3]? = some (some (.val (.str r.1))) → EvD K (tMeth (He.ga K "Net") "end_of" (spC K (ct_Net_end_of K)) [] E (tVar 0) (tCons (tVar 3) tNil)) ro [] (.val (.str r.2.2)) [] := fun h0 h3 => ev_methP (d := .str r.2.2) (ev_var h0) .v rfl (ea1 (ev_var h3)) ⟨_, _, rfl, ps, es, r.1, ⟨.inl rfl⟩, rfl, hn, .inl ⟨r, hre, rfl, rfl⟩⟩
  refine q_asg (w := .val (.tup (stD (rchL ps es r.2.2)))) (ev_callP (ea2 (ev_var rfl) (ends rfl rfl)) ⟨_, _, rfl, ps, es, r.2.2, rfl, rfl, hps r hre, hps, hn, by omega, by omega, rfl, rfl⟩) ?_
  refine g_forn (ei_strsL (ev_var rfl) .vt) (fun j ro ka => ∃ v5, ro = [some (.val (NetD K ps es)), some (.val (.tup (stD (lnN gr)))), some (.val .non), some (.val (.str r.1)), some (.val (.tup (stD (rchL ps es r.2.2)))), v5] ∧ ka = [] ∧ ∀ s ∈ gr.take j, noB es r s = false) ⟨_, rfl, rfl, fun r hr => by rw [List.take_zero] at hr; cases hr⟩ (fun _ _ _ _ => trivial) (fun j w ro2 ka2 ta3 hw ⟨v5, e1, e2, hs2⟩ => ?_) (fun ro2 ka2 ta3 ⟨v5, e1, e2, hs2⟩ hta => ?_)
  · subst e1 e2
    rw [List.getElem?_map, show lnN gr = gr.map fun r => r.1 from rfl, List.getElem?_map, Option.map_map] at hw
    obtain ⟨s, hs', rfl⟩ := Option.map_eq_some_iff.mp hw
    have ms := List.mem_of_getElem? hs'
    have hse := N.sub s ms
    have eB : (!decide (s.2.1 ∈ rchL ps es r.2.2)) = noB es r s := by
      rw [Bool.eq_iff_iff, noB_iff hse, Bool.not_eq_true', decide_eq_false_iff_not]
      exact not_congr ⟨fun h => (in_rchL.mp h).2, fun h => in_rchL.mpr ⟨(N.st s hse).1, h⟩⟩
    refine g_if (b := noB es r s) ((et_test (ev_niL (ev_methP (d := .str s.2.1) (ev_var rfl) .v rfl (ea1 (ev_var rfl)) ⟨_, _, rfl, ps, es, s.1, ⟨.inl rfl⟩, rfl, hn, .inl ⟨s, hse, rfl, rfl⟩⟩) (ev_var rfl) .vt)).to eB) (fun hb => ?_) (fun hb => g_next (g_jp ⟨_, rfl, rfl, fun y hy => ?_⟩))
    · have := N.at_
      rw [noP_at hs hr (find_first hs2 hs' hb)] at this
      cases this
      exact g_raise3 hX (ea3 (ev_var rfl) (ev_var rfl) (ev_var rfl)) Z_NoRound.xc.oex Z_NoRound.n1 Z_NoRound.n2 Z_NoRound.n3 ⟨rfl, rfl⟩
    · rw [take_succ_some hs'] at hy
      rcases List.mem_append.mp hy with hy | hy
      · exact hs2 y hy
      · rw [List.mem_singleton.mp hy]; exact hb
  · subst e1 e2
    rw [List.length_map, lnN_len, List.take_length] at hs2
    refine g_next (g_jpH hta ⟨_, _, _, rfl, rfl, fun y hy => ?_⟩)
    rw [take_succ_some hr] at hy
    rcases List.mem_append.mp hy with hy | hy
    · exact hs y hy
    · rw [List.mem_singleton.mp hy]
      exact List.find?_eq_none.mpr fun s hs => by rw [hs2 s hs]; decide
end
/-- the lanes within some posts -/
def innR (es : List Ln) (qs : List Str) : List Ln := es.filter fun r => decide (r.2.1 ∈ qs) && decide (r.2.2 ∈ qs)
theorem innR_nd {es : List Ln} {qs : List Str} (h : (lnN es).Nodup) : (lnN (innR es qs)).Nodup := List.Nodup.sublist ((List.filter_sublist (l := es)).map _) h
theorem innR_sub {es : List Ln} {qs : List Str} {r : Ln} (h : r ∈ innR es qs) : r ∈ es := (List.mem_filter.mp h).1
/-- a list or a tuple -/
def sqD (t : Bool) (ds : List D) : D := if t then .tup ds else .lst ds
theorem lk_sq {ka : Cells} {t : Bool} {ds : List D} : Lk ka (.val (sqD t ds)) t ds false := by
  cases t
  · exact .vl
  · exact .vt
theorem ei_strsB {K : PySem.W.Frag} {ro : Ro} {ka k1 : Cells} {te : TE} {t : Bool} {ss : List Str} (h : EvD K te ro ka (.val (sqD t (stD ss))) k1) : EvI K (iSeq K te) ro ka (ss.map fun s => W.val (.str s)) (fun _ => True) k1 := by
  have := ei_strsL h lk_sq
  cases t <;> exact this
def ct_inner_ends (K : PySem.W.Frag) : Ct := Ct2 fun a b ka out => ∃ ps es rs t, a = .val (NetD K ps es) ∧ b = .val (sqD t (stD (lnN rs))) ∧ (lnN es).Nodup ∧ (lnN rs).Nodup ∧ (∀ r ∈ rs, r ∈ es) ∧ rs.length ≤ 50000 ∧ ka = [] ∧ out = Rt (.dic (enD rs)) []
section
variable {P : Program} {w : World} {K : PySem.W.Frag} {mg : Str → Option Value} {base : Heap}
theorem ok_inner_ends (T : Tx K mg) : Fn P w K mg base 4 (He.ga K "inner_ends") ["net", "lanes"] (ct_inner_ends K) := by
  obtain ⟨fd, F⟩ := T.d_inner_ends
  refine fn_ok F sc_inner_ends (fun _ _ _ _ _ _ us hl => match us, hl with | [_, _], _ => rfl) ct2_len (fun cdv A outer s H E hr => ⟨_, (pss_one (ps_ret (pe_dc (tk := (tVar 2)) (tv := (tDGet (tFld K (tVar 0) "ends_by_lane") (tVar 2))) (tt := tYes) (own := [("lane", 2)]) rfl sc_inner_ends.nd (pi_seq (pv 1)) (blk_ok ["net", "lanes", "lane"] (defScope s_inner_ends) rfl rfl (by decide +kernel)) (fun _ _ _ _ _ => (pg_name (i := 2) sc_inner_ends.nd rfl (by first | exact Or.inl rfl | exact Or.inr rfl))) (fun _ _ _ _ _ => pts_nil) (fun _ _ _ _ _ => (pv 2)) (fun _ _ _ _ _ => (pe_dget (hu1 hr) (pe_fld (pv 0) rfl) (pv 2) fun _ _ => rfl))))), fun ws ka out B F0 Q hC hR hX => ?_⟩)
  obtain ⟨a, b, rfl, ps, es, rs, t, rfl, rfl, hn, hr, hs, hl, rfl, rfl⟩ := hC
  refine g_ret hR ((evr_dc (ei_strsB (ss := lnN rs) (ev_var rfl)) (by decide) (by rw [List.length_map, lnN_len]; omega) (fun i acc k => acc = enD (rs.take i) ∧ k = []) ⟨rfl, rfl⟩ (fun i acc k _ => ⟨trivial, fun _ => trivial⟩) (fun i w acc k hw ⟨e1, e2⟩ => ?_)).dicD (ms := enD rs) fun n k ⟨acc, e1, e2, e3⟩ => ⟨?_, e3⟩) ⟨rfl, rfl⟩
  · subst e1 e2
    rw [List.getElem?_map] at hw
    obtain ⟨x, hx, rfl⟩ := Option.map_eq_some_iff.mp hw
    have hx' : (rs.map (fun r : Ln => r.1))[i]? = some x := hx
    rw [List.getElem?_map] at hx'
    obtain ⟨r, hr2, rfl⟩ := Option.map_eq_some_iff.mp hx'
    exact .inr ⟨_, _, _, .inr r.1, lnD r, et_yes, ev_var rfl, ev_dgetV (ev_fld (ev_var rfl) .v T.cl_Net T.na_Net_ends_by_lane rfl) (ev_var rfl) .v (enD_getm hn (hs r (List.mem_of_getElem? hr2))), enD_take hr hr2, rfl⟩
  · rw [e1, e2, List.length_map, lnN_len, List.take_length]
end
/-- the search, run to its end -/
theorem wy_lanes {ps : List Str} {es : List Ln} {s : Str} (hps : ∀ r ∈ es, r.2.2 ∈ ps) {a : Nat} : ∀ (k j : Nat) (wy : List (Str × List Str)), k = es.length - j → j ≤ es.length → WyIn ps es s a j wy → a < wy.length → ∃ wy', WyIn ps es s a es.length wy' ∧ a < wy'.length
  | 0, j, wy, hk, hj, h, hl => by
    obtain rfl : j = es.length := by omega
    exact ⟨wy, h, hl⟩
  | k + 1, j, wy, hk, hj, h, hl => by
    have hjl : j < es.length := by omega
    have hr : es[j]? = some es[j] := List.getElem?_eq_getElem hjl
    obtain ⟨cur, hcur⟩ : ∃ c, (keysT wy)[a]? = some c := ⟨_, List.getElem?_eq_getElem (by rw [List.length_map]; exact hl)⟩
    by_cases hc : es[j].2.1 = cur ∧ ¬ es[j].2.2 ∈ keysT wy
    · have hm : es[j].2.1 ∈ keysT wy := by rw [hc.1]; exact List.mem_of_getElem? hcur
      obtain ⟨ls, hls⟩ := key_has hm
      exact wy_lanes hps k (j + 1) _ (by omega) hjl (h.add hr hls (hc.1 ▸ hcur) hc.2 (hps _ (List.getElem_mem hjl)) hl) (by rw [List.length_append]; omega)
    · refine wy_lanes hps k (j + 1) wy (by omega) hjl (h.skip hr fun p hp e => ?_) hl
      rw [hcur] at hp
      cases hp
      exact Classical.byContradiction fun z => hc ⟨e, z⟩
theorem wy_run {ps : List Str} {es : List Ln} {s : Str} (hps : ∀ r ∈ es, r.2.2 ∈ ps) : ∀ (k a : Nat) (wy : List (Str × List Str)), k = ps.length - a → WyIn ps es s a 0 wy → WyOk ps es s (wyAll ps es s)
  | k, a, wy, hk, h => by
    by_cases hl : a < wy.length
    · obtain ⟨wy', h', hl'⟩ := wy_lanes hps es.length 0 wy rfl (Nat.zero_le _) h hl
      have hlen := h'.len
      match k, hk with
      | 0, hk => omega
      | k + 1, hk => exact wy_run hps k (a + 1) wy' (by omega) (h'.next hl')
    · have := h.le
      obtain rfl : a = wy.length := by omega
      have := h.fin
      rwa [← this.eq]
theorem wyAll_ok {ps : List Str} {es : List Ln} {s : Str} (hs : s ∈ ps) (hps : ∀ r ∈ es, r.2.2 ∈ ps) : WyOk ps es s (wyAll ps es s) := wy_run hps ps.length 0 _ rfl (.ini hs)
theorem stD_inj : ∀ {xs ys : List Str}, stD xs = stD ys → xs = ys
  | [], [], _ => rfl
  | [], _ :: _, h => by cases h
  | _ :: _, [], h => by cases h
  | x :: xs, y :: ys, h => by
    have h1 := List.cons.inj h
    rw [D.str.inj h1.1, stD_inj h1.2]
/-- the way that the search finds -/
def wyL (ps : List Str) (es : List Ln) (p q : Str) : List Str := match (wyAll ps es p).find? fun kv => decide (kv.1 = q) with
  | some kv => kv.2
  | none => []
theorem wyL_ok {ps : List Str} {es : List Ln} {p q : Str} (hp : p ∈ ps) (hps : ∀ r ∈ es, r.2.2 ∈ ps) (h : Rch es p q) : getD? (wyD (wyAll ps es p)) q = .lst (stD (wyL ps es p q)) ∧ Wk es p (wyL ps es p q) q ∧ (wyL ps es p q).length ≤ ps.length := by
  have ok := wyAll_ok hp hps
  have hk := (ok.all q).mpr h
  obtain ⟨ls, hls⟩ := key_has hk
  have e : wyL ps es p q = ls := by
    unfold wyL
    cases hf : (wyAll ps es p).find? fun kv => decide (kv.1 = q) with
    | none =>
      have := List.find?_eq_none.mp hf _ hls
      exact absurd (decide_eq_true rfl) this
    | some kv =>
      have h1 := List.mem_of_find?_eq_some hf
      have h2 : kv.1 = q := of_decide_eq_true (p := kv.1 = q) (List.find?_some (p := fun kv : Str × List Str => decide (kv.1 = q)) hf)
      have g1 := tb_get (f := fun ls => D.lst (stD ls)) ok.nd (show (q, kv.2) ∈ wyAll ps es p by rw [← h2]; exact h1)
      have g2 := tb_get (f := fun ls => D.lst (stD ls)) ok.nd hls
      rw [g1] at g2
      exact stD_inj (D.lst.inj (Option.some.inj g2))
  rw [e]
  refine ⟨?_, (ok.wk q ls hls).1, ?_⟩
  · unfold getD?
    rw [show getT (wyD (wyAll ps es p)) (.inr q) = some (.lst (stD ls)) from tb_get ok.nd hls]
    rfl
  · have h1 := (ok.wk q ls hls).2
    have h2 := sub_len ok.nd (ys := ps) fun x hx => by
      cases (ok.all x).mp hx with
      | refl => exact hp
      | step _ m e => exact hps _ m
    rw [List.length_map] at h2
    omega
/-- a wanted lane, and the way to the next one -/
def pieceL (ps : List Str) (es : List Ln) (gs : List Str) (i : Nat) : List Str := gs.getD i "" :: wyL ps es (enO es (gs.getD i "")) (stO es (gs.getD ((i + 1) % gs.length) ""))
def twL (ps : List Str) (es : List Ln) (gs : List Str) (n : Nat) : List Str := ((List.range n).map (pieceL ps es gs)).flatten
theorem twL_snoc (ps : List Str) (es : List Ln) (gs : List Str) (n : Nat) : twL ps es gs (n + 1) = twL ps es gs n ++ pieceL ps es gs n := by
  unfold twL
  rw [List.range_succ, List.map_append, List.flatten_append]
  simp
structure TwOk (ps : List Str) (es : List Ln) (gs : List Str) : Prop where
  ne : gs ≠ []
  gl : gs.length ≤ 100
  gm : ∀ g ∈ gs, g ∈ lnN es
  nd : (lnN es).Nodup
  st : ∀ r ∈ es, r.2.1 ∈ ps ∧ r.2.2 ∈ ps
  rc : ∀ r ∈ es, ∀ r' ∈ es, Rch es r.2.2 r'.2.1
  pl : ps.length ≤ 900
  el : es.length ≤ 50000
theorem TwOk.row {ps : List Str} {es : List Ln} {gs : List Str} (h : TwOk ps es gs) {i : Nat} (hi : i < gs.length) : ∃ r ∈ es, gs[i]? = some r.1 ∧ gs.getD i "" = r.1 := by
  obtain ⟨r, hr, e⟩ := List.mem_map.mp (h.gm gs[i] (List.getElem_mem hi))
  exact ⟨r, hr, by rw [List.getElem?_eq_getElem hi, e], by rw [List.getD_eq_getElem?_getD, List.getElem?_eq_getElem hi, ← e]; rfl⟩
theorem TwOk.piece {ps : List Str} {es : List Ln} {gs : List Str} (h : TwOk ps es gs) {i : Nat} (hi : i < gs.length) : ∃ r ∈ es, ∃ r' ∈ es, gs[i]? = some r.1 ∧ gs[(i + 1) % gs.length]? = some r'.1 ∧ pieceL ps es gs i = r.1 :: wyL ps es r.2.2 r'.2.1 ∧ getD? (wyD (wyAll ps es r.2.2)) r'.2.1 = .lst (stD (wyL ps es r.2.2 r'.2.1)) ∧ Wk es r.2.2 (wyL ps es r.2.2 r'.2.1) r'.2.1 ∧ (wyL ps es r.2.2 r'.2.1).length ≤ ps.length := by
  have hp : 0 < gs.length := by omega
  obtain ⟨r, m, e1, e2⟩ := h.row hi
  obtain ⟨r', m', e3, e4⟩ := h.row (Nat.mod_lt (i + 1) hp)
  obtain ⟨w1, w2, w3⟩ := wyL_ok (h.st r m).2 (fun x hx => (h.st x hx).2) (h.rc r m r' m')
  refine ⟨r, m, r', m', e1, e3, ?_, w1, w2, w3⟩
  unfold pieceL
  rw [e2, e4, enO_eq h.nd m, stO_eq h.nd m']
theorem TwOk.len {ps : List Str} {es : List Ln} {gs : List Str} (h : TwOk ps es gs) : ∀ i, i ≤ gs.length → (twL ps es gs i).length ≤ i * (1 + ps.length)
  | 0, _ => Nat.zero_le _
  | i + 1, hi => by
    obtain ⟨r, m, r', m', _, _, e, _, _, l⟩ := h.piece (show i < gs.length by omega)
    have := TwOk.len h i (by omega)
    rw [twL_snoc, List.length_append, e, List.length_cons, Nat.add_mul, Nat.one_mul]
    omega
def ct_closed_walk (K : PySem.W.Frag) : Ct := Ct2 fun a b ka out => ∃ ps es gs, a = .val (.dic (enD es)) ∧ b = .val (.tup (stD gs)) ∧ TwOk ps es gs ∧ ka = [] ∧ out = Rt (.lst (stD (twL ps es gs gs.length))) []
section
variable {P : Program} {w : World} {K : PySem.W.Frag} {mg : Str → Option Value} {base : Heap}
theorem ok_closed_walk (T : Tx K mg) (F_shortest_way : Fn P w K mg base 4 (He.ga K "shortest_way") ["ends_by_lane", "first", "second"] (ct_shortest_way K)) : Fn P w K mg base 6 (He.ga K "closed_walk") ["ends", "wanted"] (ct_closed_walk K) := by
  obtain ⟨fd, F⟩ := T.d_closed_walk
  refine fn_ok F sc_closed_walk (fun _ _ _ _ _ _ us hl => match us, hl with | [_, _], _ => rfl) ct2_len (fun cdv A outer s H E hr => ⟨_, (pss_cons (ps_set (i := 2) sc_closed_walk.nd rfl (by first | exact Or.inl rfl | exact Or.inr rfl) (pe_lst pa_nil))
      (pss_cons (ps_for (passes_of rfl) rfl (pi_enumU rfl T.n_enumerate (pa_cons (pv 1) pa_nil)) (pg_tup rfl (pgs_cons (pg_name (i := 3) sc_closed_walk.nd rfl (by first | exact Or.inl rfl | exact Or.inr rfl)) (pgs_cons (pg_name (i := 4) sc_closed_walk.nd rfl (by first | exact Or.inl rfl | exact Or.inr rfl)) pgs_nil))) (pss_cons (ps_set (i := 5) sc_closed_walk.nd rfl (by first | exact Or.inl rfl | exact Or.inr rfl) (pe_ix ix_seq (pv 1) (pe_op op_mod (pe_op op_addU (pv 3) pe_int) (pe_callB call_lenU rfl T.n_len (by decide +kernel) (pa_cons (pv 1) pa_nil))) fun _ _ => rfl))
      (pss_one (ps_set (i := 2) sc_closed_walk.nd rfl (by first | exact Or.inl rfl | exact Or.inr rfl) (pe_op op_addU (pe_op op_addU (pv 2) (pe_lst (pa_cons (pv 4) pa_nil))) (pe_call (F_shortest_way.up (by decide)).ok hr rfl T.g_shortest_way.1 T.g_shortest_way.2 (F_shortest_way.up (by decide)).bn .nil (pass_own rfl rfl rfl rfl) (pa_cons (pv 0) (pa_cons (pe_ix ix_seq (pe_dget (hu1 hr) (pv 0) (pv 4) fun _ _ => rfl) pe_int fun _ _ => rfl) (pa_cons (pe_ix ix_seq (pe_dget (hu1 hr) (pv 0) (pv 5) fun _ _ => rfl) pe_int fun _ _ => rfl) pa_nil)))))))))
      (pss_one (ps_ret (pv 2))))), fun ws ka out B F0 Q hC hR hX => ?_⟩)
  obtain ⟨a, b, rfl, ps, es, gs, rfl, rfl, h, rfl, rfl⟩ := hC
  have hgl := h.gl
  have hpl := h.pl
  refine q_asg (w := .val (.lst (stD []))) (evn_lst (ds := stD []) ea_nil (by decide)).lst ?_
  refine q_forT (ei_enumU (ds := stD gs) (ev_var rfl) .vt) (fun i ro ka => ∃ (v v2 v3 : Option W), ro = [some (.val (.dic (enD es))), some (.val (.tup (stD gs))), some (.val (.lst (stD (twL ps es gs i)))), v, v2, v3] ∧ ka = []) ⟨_, _, _, rfl, rfl⟩ (fun i ro ka _ => trivial) (fun i w ro2 ka2 ta' hw ⟨v, v2, v3, e1, e2⟩ => ?_) (fun ro2 ka2 ta' ⟨v, v2, v3, e1, e2⟩ _ => ?_)
  · subst e1 e2
    rw [List.getElem?_map] at hw
    obtain ⟨i', hi', rfl⟩ := Option.map_eq_some_iff.mp hw
    obtain ⟨hi1, hi2⟩ := List.getElem?_eq_some_iff.mp hi'
    rw [List.getElem_range] at hi2
    subst hi2
    rw [List.length_range, stD_len] at hi1
    obtain ⟨r, m, r', m', g1, g2, pe, wd, _, wl⟩ := h.piece hi1
    have hg : (stD gs).getD i .non = .str r.1 := by rw [List.getD_eq_getElem?_getD, stD_get g1]; rfl
    rw [hg]
    have hlen := h.len i (by omega)
    have hlen2 : i * (1 + ps.length) ≤ 99 * 901 := Nat.mul_le_mul (by omega) (by omega)
    have hmod : (((i : Int) + 1) % ((stD gs).length : Nat)) = (((i + 1) % gs.length : Nat) : Int) := by rw [stD_len]; push_cast; rfl
    have e1 : (stD [r.1]).length = 1 := rfl
    refine ⟨_, at_t2, q_asg (w := .val (.str r'.1)) ((ev_ixV (ev_var rfl) ((ev_modI (ev_addI (ev_var rfl) ev_int) (ev_len (ev_var rfl) .vt) (by rw [stD_len]; omega)).to (by rw [hmod])) .vt (atI_nat (stD_get g2)))) (g_asg ?_ (g_jp ⟨_, _, _, rfl, rfl⟩))⟩
    rw [twL_snoc, pe]
    have f1 := (evn_op (K := K) (te := tVar 2) (tf := tLst (tCons (tVar 4) tNil)) (ro := [some (.val (.dic (enD es))), some (.val (.tup (stD gs))), some (.val (.lst (stD (twL ps es gs i)))), some (.val (.int i)), some (.val (.str r.1)), some (.val (.str r'.1))]) (ka := []) (ev_var rfl) (evn_lst (ds := stD [r.1]) (ea1 (ev_var rfl)) (show 1 ≤ 100000 by decide)).lst (rvn_cat (b1 := false) (b2 := false) .vl .vl (by rw [stD_len]; omega))).lst.to (congrArg (fun z => W.val (.lst z)) (stD_app _ _))
    refine (evn_op f1 (EvD.to (ev_callP (ea3 (ev_var rfl) (ev_ixV (ev_dgetV (d := lnD r) (ev_var rfl) (ev_var rfl) .v (enD_getm h.nd m)) ev_int .vt (atI_nat (j := 1) rfl)) (ev_ixV (ev_dgetV (d := lnD r') (ev_var rfl) (ev_var rfl) .v (enD_getm h.nd m')) ev_int .vt (atI_nat (j := 0) rfl))) ⟨_, _, _, rfl, ps, es, r.2.2, r'.2.1, rfl, rfl, rfl, (h.st r m).2, fun x hx => (h.st x hx).2, h.nd, by omega, h.el, rfl, rfl⟩) (congrArg W.val wd)) (rvn_cat (b1 := false) (b2 := false) .vl .vl (by rw [stD_len, stD_len, List.length_append, List.length_singleton]; omega))).lst.to (congrArg (fun z => W.val (.lst z)) ?_)
    rw [stD_app, List.append_assoc]
    rfl
  · subst e1 e2
    rw [List.length_map, List.length_range, stD_len] at *
    exact g_ret hR (ev_var rfl) ⟨rfl, rfl⟩
end
/-- an object of wanted lanes as data, as cells -/
def AskD (K : PySem.W.Frag) (ps : List Str) (es : List Ln) (gs : List Str) : D := .ins (He.ga K "Asked") [("base", NetD K ps es), ("goal", .tup (stD gs))]
def AskC (K : PySem.W.Frag) (a n o d : Addr) (ps : List Str) (es : List Ln) (gs : List Str) : Cells := NetC K n o d ps es ++ [(a, .ins (He.ga K "Asked") [("base", .adr n), ("goal", .tup (stD gs))])]
theorem frz_ask {K : PySem.W.Frag} {kt : Cells} {a n o d : Addr} {ps : List Str} {es : List Ln} {gs : List Str} (h : ∀ p ∈ AskC K a n o d ps es gs, p ∈ kt) : FrzD K kt a (AskD K ps es gs) :=
  frz_i (h _ (List.mem_append_right _ List.mem_cons_self)) ⟨_, _, rfl, .a (frz_net fun p hp => h p (List.mem_append_left _ hp)), _, _, rfl, .s _, rfl⟩
theorem ask_kd {K : PySem.W.Frag} {a n o d : Addr} {ps : List Str} {es : List Ln} {gs : List Str} : ∀ p ∈ AskC K a n o d ps es gs, ndK p.2 = true := fun p hp => by
  rcases List.mem_append.mp hp with hp | hp
  · exact net_kd p hp
  · rw [List.mem_singleton.mp hp]; rfl
/-- the wanted lanes in the order of the net -/
def goalL (es : List Ln) (ws : List Str) : List Str := (lnN es).filter fun l => decide (l ∈ ws)
def ct_Asked___init (K : PySem.W.Frag) : Ct := Ct3 fun s b c ka out => ∃ a ps es ws t, s = .val (.adr a) ∧ ka = [(a, .ins (He.ga K "Asked") [])] ∧ b = .val (NetD K ps es) ∧ Lk [] c t (stD ws) false ∧ ps.length ≤ 50000 ∧ es.length ≤ 50000 ∧ (lnN es).Nodup ∧
  out = if ws = [] then X0 (He.ga K "NothingWanted") [] else match ws.find? (fun x => !decide (x ∈ lnN es)) with
    | some x => Xt (He.ga K "NoLane") [("name", .str x)] []
    | none => fun o' k => ∃ n o d, o' = .ret .non ∧ k = AskC K a n o d ps es (goalL es ws)
section
variable {P : Program} {w : World} {K : PySem.W.Frag} {mg : Str → Option Value} {base : Heap}
theorem ok_Asked___init (T : Tx K mg) (F_first_missing : Fn P w K mg base 4 (He.ga K "first_missing") ["names", "known"] (ct_first_missing K)) (F_Net_lanes : Fn P w K mg base 4 (pga K (He.ga K "Net") "lanes") ["self"] (ct_Net_lanes K)) (F_Net_copy : Fn P w K mg base 6 (He.ma K (He.ga K "Net") "copy") ["self"] (ct_Net_copy K)) (Z_NoLane : Xn P w K mg base (He.ga K "NoLane") "name") : Fn P w K mg base 8 (He.ma K (He.ga K "Asked") "__init__") ["self", "net", "wanted"] (ct_Asked___init K) := by
  obtain ⟨fd, F⟩ := T.d_Asked___init
  refine fn_ok F sc_Asked___init (fun _ _ _ _ _ _ us hl => match us, hl with | [_, _, _], _ => rfl) ct3_len (fun cdv A outer s H E hr => ⟨_, (pss_cons (ps_if (pt_cmpR (op_eqP (by have := (hr).units; exact this)) (pe_callB call_lenU rfl T.n_len (by decide +kernel) (pa_cons (pv 2) pa_nil)) pe_int (nomark _))
      (pss_one (ps_raise rfl (takes_of rfl rfl rfl rfl) (pmk_zero PySem.F.excBase_ValueError T.x0_NothingWanted.1 T.g_NothingWanted.1 T.x0_NothingWanted.2.1 (raises_own T.x0_NothingWanted.2.2.1 T.x0_NothingWanted.2.2.2) rfl)))
      pss_nil)
      (pss_cons (ps_set (i := 3) sc_Asked___init.nd rfl (by first | exact Or.inl rfl | exact Or.inr rfl) (pe_call (F_first_missing.up (by decide)).ok hr rfl T.g_first_missing.1 T.g_first_missing.2 (F_first_missing.up (by decide)).bn .nil (pass_own rfl rfl rfl rfl) (pa_cons (pv 2) (pa_cons (pe_fld (pv 1) rfl) pa_nil))))
      (pss_cons (ps_if (pt_cmpR op_notN1 (pv 3) pe_non (nomark _))
      (pss_one (ps_raise rfl (takes_of rfl rfl rfl rfl) (pmk_oex Z_NoLane.xc.oex Z_NoLane.all.1 Z_NoLane.all.2.1 Z_NoLane.all.2.2.1 (hr.mono (by decide)) Z_NoLane.all.2.2.2 .nil passes_no rfl T.g_NoLane.1 (pa_cons (pv 3) pa_nil))))
      pss_nil)
      (pss_cons (ps_fld (pv 0) (pe_meth0 (pv 1) T.cl_Net T.me_Net_copy (F_Net_copy.up (by decide)).ok hr (F_Net_copy.up (by decide)).bn .nil (pass_own rfl rfl rfl rfl)) rfl)
      (pss_one (ps_fld (pv 0) (pe_callTy call_tupU rfl T.n_tuple (by decide +kernel) (pa_cons (pe_lc (te := (tVar 4)) (tt := (tTest (tOp (rInU K) (tVar 4) (tVar 2)))) (own := [("lane", 4)]) rfl sc_Asked___init.nd (pi_seq (pe_prop (pv 1) T.cl_Net T.pr_Net_lanes (F_Net_lanes.up (by decide)).ok hr (F_Net_lanes.up (by decide)).bn .nil passes_no rfl)) (blk_ok ["self", "net", "wanted", "missing", "lane"] (defScope s_Asked___init) rfl rfl (by decide +kernel)) (fun _ _ _ _ _ => (pg_name (i := 4) sc_Asked___init.nd rfl (by first | exact Or.inl rfl | exact Or.inr rfl))) (fun _ _ _ _ _ => (pts_one (pt_cmpR op_inU (pv 4) (pv 2) (by with_unfolding_all rfl)))) (fun _ _ _ _ _ => (pv 4))) pa_nil)) rfl)))))), fun ws ka out B F0 Q hC hR hX => ?_⟩)
  obtain ⟨s, b, c, rfl, a, ps, es, ws, t, rfl, rfl, rfl, lw, hl, hel, hn, rfl⟩ := hC
  have la := lw.app (kr := [(a, .ins (He.ga K "Asked") [])])
  cases ws with
  | nil => exact q_when ((et_test (ev_eqI (ev_len (ev_var rfl) la) ev_int)).to (b := true) rfl) (fun _ => Gp.less (k1 := []) (g_raise0 hX ⟨rfl, rfl⟩) (List.nil_sublist _)) (fun z => by cases z)
  | cons w0 wt =>
  refine q_when ((et_test (ev_eqI (ev_len (ev_var rfl) la) ev_int)).to (b := false) rfl) (fun z => by cases z) (fun _ => ?_)
  rw [if_neg (fun z => by cases z)] at hR hX
  refine q_asg (w := .val (fmD (w0 :: wt) (lnN es))) (ev_callP (ea2 (ev_var rfl) (ev_fld (ev_var rfl) .v T.cl_Net T.na_Net_ends_by_lane rfl)) ⟨_, _, rfl, w0 :: wt, lnN es, t, false, lw, .dc .v (fun s => enD_in es s), rfl⟩) ?_
  cases hf : (w0 :: wt).find? (fun x => !decide (x ∈ lnN es)) with
  | some x =>
    rw [hf] at hX
    have e1 : fmD (w0 :: wt) (lnN es) = .str x := by unfold fmD; rw [hf]
    rw [e1]
    exact q_when ((et_test (ev_notN (d := .str x) (ev_var rfl) (.inl rfl))).to (b := true) rfl) (fun _ => Gp.less (k1 := []) (g_raise1 hX (ea1 (ev_var rfl)) Z_NoLane.xc.oex Z_NoLane.no ⟨rfl, rfl⟩) (List.nil_sublist _)) (fun z => by cases z)
  | none =>
  rw [hf] at hR
  have e1 : fmD (w0 :: wt) (lnN es) = .non := by unfold fmD; rw [hf]
  rw [e1]
  refine q_when ((et_test (ev_notN (d := .non) (ev_var rfl) (.inl rfl))).to (b := false) rfl) (fun z => by cases z) (fun _ => ?_)
  refine q_fldR (C := He.ga K "Asked") (a := a) (evr_meth (k1 := [(a, .ins (He.ga K "Asked") [])]) (k2 := []) [(a, .ins (He.ga K "Asked") [])] (ev_var rfl) .v rfl ea_nil ⟨_, rfl, ps, es, rfl, hl, hel, hn, rfl, rfl⟩ (fun o k ⟨n, o2, d, e, _⟩ => ⟨_, e⟩)) T.cl_Asked T.na_Asked_base (fun w k1 ⟨dd, k3, ⟨n, o, d, e2, e3⟩, e4, e5⟩ => ?_)
  cases e2
  subst e3 e4 e5
  refine ⟨.adr n, _, 3, [], rfl, ev_var rfl, rfl, by decide, ?_⟩
  have lb := lw.app (kr := NetC K n o d ps es ++ [(a, .ins (He.ga K "Asked") [("base", .adr n)])])
  refine g_fld (j := 3) (a := a) (fs := [("base", .adr n)]) (d := .tup (stD (goalL es (w0 :: wt)))) (ev_cb (ea1 ((evn_filt (xs := lnN es) (g := fun s => W.val (.str s)) (f := fun s => D.str s) (p := fun l => decide (l ∈ w0 :: wt)) (ei_strsL (ev_prop (k1 := []) (NetC K n o d ps es ++ [(a, .ins (He.ga K "Asked") [("base", .adr n)])]) (ev_var rfl) .v ⟨_, rfl, ps, es, rfl, hel, rfl, rfl⟩ fun _ _ z => z) .vt) (by decide) (by rw [lnN_len]; omega) ⟨trivial, fun _ => trivial⟩ (fun l hl => et_test (ev_inL (ev_var rfl) (ev_var rfl) lb)) (fun l hl _ => ev_var rfl)).lst)) (rc_tupL .vl (sqf_stD _ _))) (ev_var rfl) rfl T.cl_Asked T.na_Asked_goal (show 1 < 900 by decide) (g_end hR ⟨n, o, d, rfl, rfl⟩)
end
def ct_Asked_wanted (K : PySem.W.Frag) : Ct := Ct1 fun s ka out => ∃ ps es gs, s = .val (AskD K ps es gs) ∧ ka = [] ∧ out = Rt (.tup (stD gs)) []
section
variable {P : Program} {w : World} {K : PySem.W.Frag} {mg : Str → Option Value} {base : Heap}
theorem ok_Asked_wanted (T : Tx K mg) : Fn P w K mg base 4 (pga K (He.ga K "Asked") "wanted") ["self"] (ct_Asked_wanted K) := by
  obtain ⟨fd, F⟩ := T.d_Asked_wanted
  refine fn_ok F sc_Asked_wanted (fun _ _ _ _ _ _ us hl => match us, hl with | [_], _ => rfl) ct1_len (fun cdv A outer s H E hr => ⟨_, (pss_one (ps_ret (pe_fld (pv 0) rfl))), fun ws ka out B F0 Q hC hR hX => ?_⟩)
  obtain ⟨s, rfl, ps, es, gs, rfl, rfl, rfl⟩ := hC
  exact g_ret hR (ev_fld (ev_var rfl) .v T.cl_Asked T.na_Asked_goal rfl) ⟨rfl, rfl⟩
end
def ct_Asked_part (K : PySem.W.Frag) : Ct := Ct1 fun s ka out => (∃ ps es gs r, s = .val (AskD K ps es gs) ∧ ps.Nodup ∧ (∀ r ∈ es, r.2.2 ∈ ps) ∧ (lnN es).Nodup ∧ ps.length ≤ 1000 ∧ es.length ≤ 40000 ∧ pwF ps es gs = some r ∧ ka = [] ∧ out = Rt (prE r) []) ∨
  (∃ ps es gr x, s = .val (AskD K ps es (lnN gr)) ∧ NoR ps es gr x ∧ ka = [] ∧ out = nrO K ps es x)
section
variable {P : Program} {w : World} {K : PySem.W.Frag} {mg : Str → Option Value} {base : Heap}
theorem ok_Asked_part (T : Tx K mg) (F_found_part : Fn P w K mg base 10 (He.ga K "found_part") ["net", "wanted"] (ct_found_part K)) : Fn P w K mg base 12 (He.ma K (He.ga K "Asked") "part") ["self"] (ct_Asked_part K) := by
  obtain ⟨fd, F⟩ := T.d_Asked_part
  refine fn_ok F sc_Asked_part (fun _ _ _ _ _ _ us hl => match us, hl with | [_], _ => rfl) ct1_len (fun cdv A outer s H E hr => ⟨_, (pss_one (ps_ret (pe_call (F_found_part.up (by decide)).ok hr rfl T.g_found_part.1 T.g_found_part.2 (F_found_part.up (by decide)).bn .nil (pass_own rfl rfl rfl rfl) (pa_cons (pe_fld (pv 0) rfl) (pa_cons (pe_fld (pv 0) rfl) pa_nil))))), fun ws ka out B F0 Q hC hR hX => ?_⟩)
  obtain ⟨s, rfl, ⟨ps, es, gs, r, rfl, hnd, hps, hn, hl, hel, hf, rfl, rfl⟩ | ⟨ps, es, gr, x, rfl, N, rfl, rfl⟩⟩ := hC
  · exact g_ret hR (ev_callP (ea2 (ev_fld (ev_var rfl) .v T.cl_Asked T.na_Asked_base rfl) (ev_fld (ev_var rfl) .v T.cl_Asked T.na_Asked_goal rfl)) ⟨_, _, rfl, .inl ⟨ps, es, gs, true, r, rfl, .vt, hnd, hps, hn, hl, hel, hf, rfl, rfl⟩⟩) ⟨rfl, rfl⟩
  · exact g_retPX hX (evx_call (k2 := []) (kr := []) (k3 := []) (ea2 (ev_fld (ev_var rfl) .v T.cl_Asked T.na_Asked_base rfl) (ev_fld (ev_var rfl) .v T.cl_Asked T.na_Asked_goal rfl)) ⟨_, _, rfl, .inr ⟨ps, es, gr, x, rfl, rfl, N, rfl, rfl⟩⟩ rfl) ⟨rfl, rfl⟩
end
theorem TwOk.nm {ps : List Str} {es : List Ln} {gs : List Str} (h : TwOk ps es gs) : ∀ n, n ≤ gs.length → ∀ x ∈ twL ps es gs n, x ∈ lnN es
  | 0, _, x, hx => by cases hx
  | n + 1, hn, x, hx => by
    rw [twL_snoc] at hx
    rcases List.mem_append.mp hx with hx | hx
    · exact TwOk.nm h n (by omega) x hx
    · obtain ⟨r, m, r', m', _, _, e, _, w, _⟩ := h.piece (show n < gs.length by omega)
      rw [e] at hx
      rcases List.mem_cons.mp hx with rfl | hx
      · exact List.mem_map.mpr ⟨r, m, rfl⟩
      · exact wk_in w x hx
where
  wk_in {es : List Ln} {q : Str} : ∀ {ls : List Str} {p : Str}, Wk es p ls q → ∀ x ∈ ls, x ∈ lnN es
    | [], _, _, x, hx => by cases hx
    | y :: t, _, ⟨r, m, e1, _, h⟩, x, hx => by
      rcases List.mem_cons.mp hx with rfl | hx
      · exact List.mem_map.mpr ⟨r, m, e1⟩
      · exact wk_in h x hx
theorem TwOk.ne' {ps : List Str} {es : List Ln} {gs : List Str} (h : TwOk ps es gs) : twL ps es gs gs.length ≠ [] := fun z => by
  have hp := List.length_pos_iff.mpr h.ne
  obtain ⟨n, hn⟩ : ∃ n, gs.length = n + 1 := ⟨gs.length - 1, by omega⟩
  rw [hn, twL_snoc] at z
  have := (List.append_eq_nil_iff.mp z).2
  unfold pieceL at this
  cases this
def ct_Asked_round (K : PySem.W.Frag) : Ct := Ct1 fun s ka out => ∃ ps es gs q, s = .val (AskD K ps es gs) ∧ ps.Nodup ∧ (∀ r ∈ es, r.2.2 ∈ ps) ∧ (lnN es).Nodup ∧ (∀ x ∈ lnN es, isNm x = true) ∧ ps.length ≤ 400 ∧ es.length ≤ 40000 ∧ pwF ps es gs = some q ∧ q.2 = innL es q.1 ∧ TwOk ps (innR es q.1) gs ∧ ka = [] ∧ out = Rt (RD K (stD (twL ps (innR es q.1) gs gs.length))) []
section
variable {P : Program} {w : World} {K : PySem.W.Frag} {mg : Str → Option Value} {base : Heap}
theorem ok_Asked_round (T : Tx K mg) (F_Round___init : Fn P w K mg base 8 (He.ma K (He.ga K "Round") "__init__") ["self", "lanes"] (ct_Round___init K)) (F_found_part : Fn P w K mg base 10 (He.ga K "found_part") ["net", "wanted"] (ct_found_part K)) (F_inner_ends : Fn P w K mg base 4 (He.ga K "inner_ends") ["net", "lanes"] (ct_inner_ends K)) (F_closed_walk : Fn P w K mg base 6 (He.ga K "closed_walk") ["ends", "wanted"] (ct_closed_walk K)) : Fn P w K mg base 12 (He.ma K (He.ga K "Asked") "round") ["self"] (ct_Asked_round K) := by
  obtain ⟨fd, F⟩ := T.d_Asked_round
  refine fn_ok F sc_Asked_round (fun _ _ _ _ _ _ us hl => match us, hl with | [_], _ => rfl) ct1_len (fun cdv A outer s H E hr => ⟨_, (pss_cons (ps_asg (pe_call (F_found_part.up (by decide)).ok hr rfl T.g_found_part.1 T.g_found_part.2 (F_found_part.up (by decide)).bn .nil (pass_own rfl rfl rfl rfl) (pa_cons (pe_fld (pv 0) rfl) (pa_cons (pe_fld (pv 0) rfl) pa_nil))) (pg_tup rfl (pgs_cons (pg_name (i := 1) sc_Asked_round.nd rfl (by first | exact Or.inl rfl | exact Or.inr rfl)) (pgs_cons (pg_name (i := 2) sc_Asked_round.nd rfl (by first | exact Or.inl rfl | exact Or.inr rfl)) pgs_nil))))
      (pss_one (ps_ret (pe_make T.mk_Round (F_Round___init.up (by decide)).ok hr rfl T.g_Round.1 (F_Round___init.up (by decide)).bn .nil (pass_own rfl rfl rfl rfl) (pa_cons (pe_call (F_closed_walk.up (by decide)).ok hr rfl T.g_closed_walk.1 T.g_closed_walk.2 (F_closed_walk.up (by decide)).bn .nil (pass_own rfl rfl rfl rfl) (pa_cons (pe_call (F_inner_ends.up (by decide)).ok hr rfl T.g_inner_ends.1 T.g_inner_ends.2 (F_inner_ends.up (by decide)).bn .nil (pass_own rfl rfl rfl rfl) (pa_cons (pe_fld (pv 0) rfl) (pa_cons (pv 2) pa_nil))) (pa_cons (pe_fld (pv 0) rfl) pa_nil))) pa_nil))))), fun ws ka out B F0 Q hC hR hX => ?_⟩)
  obtain ⟨s, rfl, ps, es, gs, q, rfl, hnd, hps, hn, hnm, hl, hel, hf, hq, htw, rfl, rfl⟩ := hC
  have fb : ∀ {ro : Ro}, ro[0]? = some (some (.val (AskD K ps es gs))) → EvD K (tFld K (tVar 0) "base") ro [] (.val (NetD K ps es)) [] := fun h => ev_fld (ev_var h) .v T.cl_Asked T.na_Asked_base rfl
  have fg : ∀ {ro : Ro}, ro[0]? = some (some (.val (AskD K ps es gs))) → EvD K (tFld K (tVar 0) "goal") ro [] (.val (.tup (stD gs))) [] := fun h => ev_fld (ev_var h) .v T.cl_Asked T.na_Asked_goal rfl
  refine q_asgT (w := .val (prE q)) (ev_callP (ea2 (fb rfl) (fg rfl)) ⟨_, _, rfl, .inl ⟨ps, es, gs, true, q, rfl, .vt, hnd, hps, hn, by omega, hel, hf, rfl, rfl⟩⟩) at_t2 ?_
  have hlen := htw.len gs.length (Nat.le_refl _)
  have hg := htw.gl
  have hlen2 : gs.length * (1 + ps.length) ≤ 100 * 401 := Nat.mul_le_mul hg (by omega)
  have hi : q.2 = lnN (innR es q.1) := hq
  have hil : (innR es q.1).length ≤ es.length := List.length_filter_le _ _
  exact g_ret hR (ev_round (ev_callP (ea2 (ev_callP (ea2 (fb rfl) (ev_var rfl)) ⟨_, _, rfl, ps, es, innR es q.1, true, rfl, by rw [hi]; rfl, hn, innR_nd hn, fun r h => innR_sub h, by omega, rfl, rfl⟩) (fg rfl)) ⟨_, _, rfl, ps, innR es q.1, gs, rfl, rfl, htw, rfl, rfl⟩) .vl (fun z => by cases z) (sqf_stD _ _) ⟨htw.ne', by omega, fun x hx => by
    obtain ⟨r, m, e⟩ := List.mem_map.mp (htw.nm gs.length (Nat.le_refl _) x hx)
    exact hnm x (List.mem_map.mpr ⟨r, innR_sub m, e⟩)⟩) ⟨rfl, rfl⟩
end
def ct_Asked___bool (K : PySem.W.Frag) : Ct := Ct1 fun s ka out => ∃ ps es gs, s = .val (AskD K ps es gs) ∧ ps.Nodup ∧ (∀ r ∈ es, r.2.2 ∈ ps) ∧ (lnN es).Nodup ∧ ps.length ≤ 1000 ∧ es.length ≤ 40000 ∧ ka = [] ∧ out = Rt (.bl (pwF ps es gs).isSome) []
section
variable {P : Program} {w : World} {K : PySem.W.Frag} {mg : Str → Option Value} {base : Heap}
theorem ok_Asked___bool (T : Tx K mg) (F_part_with : Fn P w K mg base 8 (He.ga K "part_with") ["net", "wanted"] (ct_part_with K)) : Fn P w K mg base 10 (He.ma K (He.ga K "Asked") "__bool__") ["self"] (ct_Asked___bool K) := by
  obtain ⟨fd, F⟩ := T.d_Asked___bool
  refine fn_ok F sc_Asked___bool (fun _ _ _ _ _ _ us hl => match us, hl with | [_], _ => rfl) ct1_len (fun cdv A outer s H E hr => ⟨_, (pss_one (ps_ret (pe_cmpR op_notN1 (pe_call (F_part_with.up (by decide)).ok hr rfl T.g_part_with.1 T.g_part_with.2 (F_part_with.up (by decide)).bn .nil (pass_own rfl rfl rfl rfl) (pa_cons (pe_fld (pv 0) rfl) (pa_cons (pe_fld (pv 0) rfl) pa_nil))) pe_non (nomark _)))), fun ws ka out B F0 Q hC hR hX => ?_⟩)
  obtain ⟨s, rfl, ps, es, gs, rfl, hnd, hps, hn, hl, hel, rfl, rfl⟩ := hC
  refine g_ret hR ((ev_notN (d := pwD ps es gs) (ev_callP (ea2 (ev_fld (ev_var rfl) .v T.cl_Asked T.na_Asked_base rfl) (ev_fld (ev_var rfl) .v T.cl_Asked T.na_Asked_goal rfl)) ⟨_, _, rfl, ps, es, gs, true, rfl, .vt, hnd, hps, hn, hl, hel, rfl, rfl⟩) (.inl rfl)).to ?_) ⟨rfl, rfl⟩
  unfold pwD
  cases pwF ps es gs <;> rfl
end
/-- the first lane that one of two wants and the other one does not -/
def lackO (gs hs : List Str) : Option Str := match gs.find? (fun x => !decide (x ∈ hs)) with
  | some x => some x
  | none => hs.find? fun x => !decide (x ∈ gs)
def ct_check_same (K : PySem.W.Frag) : Ct := Ct2 fun a b ka out => ∃ ps es gs qs fs hs, a = .val (AskD K ps es gs) ∧ b = .val (AskD K qs fs hs) ∧ gs.length ≤ 1000 ∧ hs.length ≤ 1000 ∧ ka = [] ∧ ((∃ x, lackO gs hs = some x ∧ out = Xt (He.ga K "NoLane") [("name", .str x)] []) ∨ (lackO gs hs = none ∧ out = Rt .non []))
section
variable {P : Program} {w : World} {K : PySem.W.Frag} {mg : Str → Option Value} {base : Heap}
theorem ok_check_same (T : Tx K mg) (F_first_missing : Fn P w K mg base 4 (He.ga K "first_missing") ["names", "known"] (ct_first_missing K)) (F_Asked_wanted : Fn P w K mg base 4 (pga K (He.ga K "Asked") "wanted") ["self"] (ct_Asked_wanted K)) (Z_NoLane : Xn P w K mg base (He.ga K "NoLane") "name") : Fn P w K mg base 6 (He.ga K "check_same") ["one", "two"] (ct_check_same K) := by
  obtain ⟨fd, F⟩ := T.d_check_same
  refine fn_ok F sc_check_same (fun _ _ _ _ _ _ us hl => match us, hl with | [_, _], _ => rfl) ct2_len (fun cdv A outer s H E hr => ⟨_, (pss_one (ps_for (passes_of rfl) rfl (pi_seq (pe_tup (pa_cons (pe_tup (pa_cons (pv 0) (pa_cons (pv 1) pa_nil))) (pa_cons (pe_tup (pa_cons (pv 1) (pa_cons (pv 0) pa_nil))) pa_nil)))) (pg_tup rfl (pgs_cons (pg_name (i := 2) sc_check_same.nd rfl (by first | exact Or.inl rfl | exact Or.inr rfl)) (pgs_cons (pg_name (i := 3) sc_check_same.nd rfl (by first | exact Or.inl rfl | exact Or.inr rfl)) pgs_nil))) (pss_cons (ps_set (i := 4) sc_check_same.nd rfl (by first | exact Or.inl rfl | exact Or.inr rfl) (pe_call (F_first_missing.up (by decide)).ok hr rfl T.g_first_missing.1 T.g_first_missing.2 (F_first_missing.up (by decide)).bn .nil (pass_own rfl rfl rfl rfl) (pa_cons (pe_prop (pv 2) T.cl_Asked T.pr_Asked_wanted (F_Asked_wanted.up (by decide)).ok hr (F_Asked_wanted.up (by decide)).bn .nil passes_no rfl) (pa_cons (pe_prop (pv 3) T.cl_Asked T.pr_Asked_wanted (F_Asked_wanted.up (by decide)).ok hr (F_Asked_wanted.up (by decide)).bn .nil passes_no rfl) pa_nil))))
      (pss_one (ps_if (pt_cmpR op_notN1 (pv 4) pe_non (nomark _))
      (pss_one (ps_raise rfl (takes_of rfl rfl rfl rfl) (pmk_oex Z_NoLane.xc.oex Z_NoLane.all.1 Z_NoLane.all.2.1 Z_NoLane.all.2.2.1 (hr.mono (by decide)) Z_NoLane.all.2.2.2 .nil passes_no rfl T.g_NoLane.1 (pa_cons (pv 4) pa_nil))))
      pss_nil))))), fun ws ka out B F0 Q hC hR hX => ?_⟩)
  obtain ⟨a, b, rfl, ps, es, gs, qs, fs, hs, rfl, rfl, gl, hl, rfl, ho⟩ := hC
  have wan : ∀ {ro : Ro} {k : Cells} {j : Nat} {ps : List Str} {es : List Ln} {gs : List Str}, ro[j]? = some (some (.val (AskD K ps es gs))) → EvD K (tProp (He.ga K "Asked") (spC K (ct_Asked_wanted K)) [] (fun _ _ _ => False) (tVar j)) ro k (.val (.tup (stD gs))) k := fun {ro k j ps es gs} h => ev_prop (k1 := []) k (d := .tup (stD gs)) (ev_var h) .v (Cc := ct_Asked_wanted K) ⟨_, rfl, ps, es, gs, rfl, rfl, rfl⟩ fun _ _ z => z
  refine g_forT (ei_seq (ds := [.tup [AskD K ps es gs, AskD K qs fs hs], .tup [AskD K qs fs hs, AskD K ps es gs]]) (ev_tup (ds := [.tup [AskD K ps es gs, AskD K qs fs hs], .tup [AskD K qs fs hs, AskD K ps es gs]]) (ea2 (ev_tup (ds := [AskD K ps es gs, AskD K qs fs hs]) (ea2 (ev_var (i := 0) rfl) (ev_var (i := 1) rfl)) (show 2 ≤ 100000 by decide)) (ev_tup (ds := [AskD K qs fs hs, AskD K ps es gs]) (ea2 (ev_var (i := 1) rfl) (ev_var (i := 0) rfl)) (show 2 ≤ 100000 by decide))) (show 2 ≤ 100000 by decide)) .vt) (fun i ro ka => ∃ v2 v3 v4, ro = [some (.val (AskD K ps es gs)), some (.val (AskD K qs fs hs)), v2, v3, v4] ∧ ka = [] ∧ (0 < i → gs.find? (fun x => !decide (x ∈ hs)) = none) ∧ (1 < i → hs.find? (fun x => !decide (x ∈ gs)) = none)) ⟨_, _, _, rfl, rfl, fun z => absurd z (by decide), fun z => absurd z (by decide)⟩ (fun _ _ _ _ => trivial) (fun i w ro2 ka2 ta2 hw ⟨v2, v3, v4, e1, e2, h1, h2⟩ => ?_) (fun ro2 ka2 ta2 ⟨v2, v3, v4, e1, e2, h1, h2⟩ hta => ?_)
  rotate_left
  · subst e1 e2
    have : lackO gs hs = none := by
      unfold lackO
      rw [h1 (show 0 < 2 by decide)]
      exact h2 (show 1 < 2 by decide)
    rcases ho with ⟨x, hx, _⟩ | ⟨_, rfl⟩
    · rw [this] at hx
      cases hx
    · exact g_end hR ⟨rfl, rfl⟩
  subst e1 e2
  match i, hw, h1, h2 with
  | 0, hw, h1, h2 =>
    cases hw
    refine ⟨_, at_t2, ?_⟩
    refine q_asg (w := .val (fmD gs hs)) (ev_callP (ea2 (wan (j := 2) rfl) (wan (j := 3) rfl)) ⟨_, _, rfl, gs, hs, true, false, .vt, .sq .vt, rfl⟩) ?_
    cases hf : gs.find? (fun x => !decide (x ∈ hs)) with
    | some x =>
      have e1 : fmD gs hs = .str x := by unfold fmD; rw [hf]
      have e2 : lackO gs hs = some x := by unfold lackO; rw [hf]
      rw [e1]
      refine g_if (b := true) ((et_test (ev_notN (d := .str x) (ev_var rfl) (.inl rfl))).to rfl) (fun _ => ?_) (fun z => by cases z)
      rcases ho with ⟨y, hy, rfl⟩ | ⟨hy, _⟩
      · rw [e2] at hy
        cases hy
        exact g_raise1 hX (ea1 (ev_var rfl)) Z_NoLane.xc.oex Z_NoLane.no ⟨rfl, rfl⟩
      · rw [e2] at hy
        cases hy
    | none =>
      have e1 : fmD gs hs = .non := by unfold fmD; rw [hf]
      rw [e1]
      exact g_if (b := false) ((et_test (ev_notN (d := .non) (ev_var rfl) (.inl rfl))).to rfl) (fun z => by cases z) (fun _ => g_next (g_jp ⟨_, _, _, rfl, rfl, fun _ => rfl, fun z => absurd z (by decide)⟩))
  | 1, hw, h1, h2 =>
    have h1s : 0 < 1 + 1 → gs.find? (fun x => !decide (x ∈ hs)) = none := fun _ => h1 (by decide)
    cases hw
    refine ⟨_, at_t2, ?_⟩
    refine q_asg (w := .val (fmD hs gs)) (ev_callP (ea2 (wan (j := 2) rfl) (wan (j := 3) rfl)) ⟨_, _, rfl, hs, gs, true, false, .vt, .sq .vt, rfl⟩) ?_
    cases hf : hs.find? (fun x => !decide (x ∈ gs)) with
    | some x =>
      have e1 : fmD hs gs = .str x := by unfold fmD; rw [hf]
      have e2 : lackO gs hs = some x := by unfold lackO; rw [h1 (by decide)]; exact hf
      rw [e1]
      refine g_if (b := true) ((et_test (ev_notN (d := .str x) (ev_var rfl) (.inl rfl))).to rfl) (fun _ => ?_) (fun z => by cases z)
      rcases ho with ⟨y, hy, rfl⟩ | ⟨hy, _⟩
      · rw [e2] at hy
        cases hy
        exact g_raise1 hX (ea1 (ev_var rfl)) Z_NoLane.xc.oex Z_NoLane.no ⟨rfl, rfl⟩
      · rw [e2] at hy
        cases hy
    | none =>
      have e1 : fmD hs gs = .non := by unfold fmD; rw [hf]
      rw [e1]
      exact g_if (b := false) ((et_test (ev_notN (d := .non) (ev_var rfl) (.inl rfl))).to rfl) (fun z => by cases z) (fun _ => g_next (g_jp ⟨_, _, _, rfl, rfl, h1s, fun _ => rfl⟩))
  | i + 2, hw, _, _ => cases hw
end
/-- a net with wanted lanes in order of the net, sizes -/
structure AskOk (ps : List Str) (es : List Ln) (gs : List Str) : Prop where
  ok : PtOk ps es
  gne : gs ≠ []
  gl : gs.length ≤ 10
  pl : ps.length ≤ 10
  el : es.length ≤ 30
/-- the part, and the closed walk that a round tells -/
structure HasQ (ps : List Str) (es : List Ln) (gs : List Str) (q : List Str × List Str) : Prop where
  pw : pwF ps es gs = some q
  q2 : q.2 = innL es q.1
  tw : TwOk ps (innR es q.1) gs
theorem AskOk.ps2 {ps : List Str} {es : List Ln} {gs : List Str} (h : AskOk ps es gs) : ∀ r ∈ es, r.2.2 ∈ ps := fun r hr => (h.ok.st r hr).2
theorem AskOk.nm {ps : List Str} {es : List Ln} {gs : List Str} (h : AskOk ps es gs) : ∀ x ∈ lnN es, isNm x = true := fun x hx => by
  obtain ⟨r, hr, rfl⟩ := List.mem_map.mp hx
  exact h.ok.en r hr
noncomputable def rndL (ps : List Str) (es : List Ln) (gs : List Str) (q : List Str × List Str) : List Str := twL ps (innR es q.1) gs gs.length
def ct_parting_round (K : PySem.W.Frag) : Ct := Ct2 fun a b ka out => ∃ ps es gs qs fs hs, a = .val (AskD K ps es gs) ∧ b = .val (AskD K qs fs hs) ∧ AskOk ps es gs ∧ AskOk qs fs hs ∧ ka = [] ∧ ((∃ x, lackO gs hs = some x ∧ out = Xt (He.ga K "NoLane") [("name", .str x)] []) ∨
  (lackO gs hs = none ∧ ((pwF ps es gs = none ∧ pwF qs fs hs = none ∧ out = Rt .non []) ∨ (∃ q, HasQ ps es gs q ∧ pwF qs fs hs = none ∧ out = Rt (RD K (stD (rndL ps es gs q))) []) ∨ (∃ q, pwF ps es gs = none ∧ HasQ qs fs hs q ∧ out = Rt (RD K (stD (rndL qs fs hs q))) []))))
section
variable {P : Program} {w : World} {K : PySem.W.Frag} {mg : Str → Option Value} {base : Heap}
theorem ok_parting_round (T : Tx K mg) (F_Asked_round : Fn P w K mg base 12 (He.ma K (He.ga K "Asked") "round") ["self"] (ct_Asked_round K)) (F_Asked___bool : Fn P w K mg base 10 (He.ma K (He.ga K "Asked") "__bool__") ["self"] (ct_Asked___bool K)) (F_check_same : Fn P w K mg base 6 (He.ga K "check_same") ["one", "two"] (ct_check_same K)) : Fn P w K mg base 14 (He.ga K "parting_round") ["one", "two"] (ct_parting_round K) := by
  obtain ⟨fd, F⟩ := T.d_parting_round
  refine fn_ok F sc_parting_round (fun _ _ _ _ _ _ us hl => match us, hl with | [_, _], _ => rfl) ct2_len (fun cdv A outer s H E hr => ⟨_, (pss_cons (ps_expr (pe_call (F_check_same.up (by decide)).ok hr rfl T.g_check_same.1 T.g_check_same.2 (F_check_same.up (by decide)).bn .nil (pass_own rfl rfl rfl rfl) (pa_cons (pv 0) (pa_cons (pv 1) pa_nil))))
      (pss_cons (ps_if (PW.pt (pw_and (pt_own (pv 0) T.sm_Asked_bool (F_Asked___bool.up (by decide)) hr (pass_own rfl rfl rfl rfl)) (pw_and1 (pt_own (pv 1) T.sm_Asked_bool (F_Asked___bool.up (by decide)) hr (pass_own rfl rfl rfl rfl)))))
      (pss_cons ps_no
      (pss_one ps_no))
      pss_nil)
      (pss_cons (ps_if (pt_own (pv 0) T.sm_Asked_bool (F_Asked___bool.up (by decide)) hr (pass_own rfl rfl rfl rfl))
      (pss_one (ps_ret (pe_meth0 (pv 0) T.cl_Asked T.me_Asked_round (F_Asked_round.up (by decide)).ok hr (F_Asked_round.up (by decide)).bn .nil (pass_own rfl rfl rfl rfl))))
      pss_nil)
      (pss_one (ps_ret (pe_ifExp (pt_own (pv 1) T.sm_Asked_bool (F_Asked___bool.up (by decide)) hr (pass_own rfl rfl rfl rfl)) (pe_meth0 (pv 1) T.cl_Asked T.me_Asked_round (F_Asked_round.up (by decide)).ok hr (F_Asked_round.up (by decide)).bn .nil (pass_own rfl rfl rfl rfl)) pe_non)))))), fun ws ka out B F0 Q hC hR hX => ?_⟩)
  obtain ⟨a, b, rfl, ps, es, gs, qs, fs, hs, rfl, rfl, A, B, rfl, ho⟩ := hC
  have gl := A.gl
  have hl := B.gl
  have con : ∀ {o}, ((∃ x, lackO gs hs = some x ∧ o = Xt (He.ga K "NoLane") [("name", .str x)] []) ∨ (lackO gs hs = none ∧ o = Rt .non [])) → ct_check_same K [.val (AskD K ps es gs), .val (AskD K qs fs hs)] [] o := fun h => ⟨_, _, rfl, ps, es, gs, qs, fs, hs, rfl, rfl, by omega, by omega, rfl, h⟩
  rcases ho with ⟨x, hx, rfl⟩ | ⟨hx, ho⟩
  · exact q_dropP hX (evx_call (k2 := []) (kr := []) (k3 := []) (ea2 (ev_var rfl) (ev_var rfl)) (con (.inl ⟨x, hx, rfl⟩)) rfl) ⟨rfl, rfl⟩
  refine q_drop (w := .val .non) (ev_callP (ea2 (ev_var rfl) (ev_var rfl)) (con (.inr ⟨hx, rfl⟩))) ?_
  have bo : ∀ {j : Nat} {ro : Ro} {ps : List Str} {es : List Ln} {gs : List Str}, AskOk ps es gs → ro[j]? = some (some (.val (AskD K ps es gs))) → EvT K (tB (tCB (rBoolO (He.ga K "Asked") (spC K (ct_Asked___bool K)) E) (tCons (tVar j) tNil))) ro [] (pwF ps es gs).isSome [] := fun {j ro ps es gs} A h => by
    have gl := A.pl
    have el := A.el
    exact et_B (ev_boolO (Cc := ct_Asked___bool K) (ev_var h) .v ⟨_, rfl, ps, es, gs, rfl, A.ok.pd, A.ps2, A.ok.ed, by omega, by omega, rfl, rfl⟩)
  have rd : ∀ {j : Nat} {ro : Ro} {ps : List Str} {es : List Ln} {gs : List Str} {q : List Str × List Str}, AskOk ps es gs → HasQ ps es gs q → ro[j]? = some (some (.val (AskD K ps es gs))) → EvD K (tMeth (He.ga K "Asked") "round" (spC K (ct_Asked_round K)) [] E (tVar j) tNil) ro [] (.val (RD K (stD (rndL ps es gs q)))) [] := fun {j ro ps es gs q} A h hj => by
    have gl := A.pl
    have el := A.el
    exact ev_methP (ev_var hj) .v rfl ea_nil ⟨_, rfl, ps, es, gs, q, rfl, A.ok.pd, A.ps2, A.ok.ed, A.nm, by omega, by omega, h.pw, h.q2, h.tw, rfl, rfl⟩
  rcases ho with ⟨h1, h2, rfl⟩ | ⟨q, h1, h2, rfl⟩ | ⟨q, h1, h2, rfl⟩
  · refine q_when (b := false) (et_and0 ((bo A rfl).to (by rw [h1]; rfl))) (fun z => by cases z) (fun _ => ?_)
    refine q_when (b := false) ((bo A rfl).to (by rw [h1]; rfl)) (fun z => by cases z) (fun _ => ?_)
    exact g_ret hR (ev_ifF (k1 := []) ((bo B rfl).to (by rw [h2]; rfl)) ev_non) ⟨rfl, rfl⟩
  · refine q_when (b := false) (et_and1 ((bo A rfl).to (by rw [h1.pw]; rfl)) ((bo B rfl).to (by rw [h2]; rfl))) (fun z => by cases z) (fun _ => ?_)
    exact q_when (b := true) ((bo A rfl).to (by rw [h1.pw]; rfl)) (fun _ => g_ret hR (rd A h1 rfl) ⟨rfl, rfl⟩) (fun z => by cases z)
  · refine q_when (b := false) (et_and0 ((bo A rfl).to (by rw [h1]; rfl))) (fun z => by cases z) (fun _ => ?_)
    refine q_when (b := false) ((bo A rfl).to (by rw [h1]; rfl)) (fun z => by cases z) (fun _ => ?_)
    exact g_ret hR (ev_ifT (k1 := []) ((bo B rfl).to (by rw [h2.pw]; rfl)) (rd B h2 rfl)) ⟨rfl, rfl⟩
end
theorem rnd_ok {ps : List Str} {es : List Ln} {gs : List Str} {q : List Str × List Str} (A : AskOk ps es gs) (h : HasQ ps es gs q) : RdOk (rndL ps es gs q) ∧ (rndL ps es gs q).length ≤ 200 := by
  have hlen := h.tw.len gs.length (Nat.le_refl _)
  have hg := A.gl
  have hp := A.pl
  have hlen2 : gs.length * (1 + ps.length) ≤ 10 * 11 := Nat.mul_le_mul hg (by omega)
  have hl : (rndL ps es gs q).length ≤ 200 := by
    unfold rndL
    omega
  exact ⟨⟨h.tw.ne', by omega, fun x hx => by
    obtain ⟨r, m, e⟩ := List.mem_map.mp (h.tw.nm gs.length (Nat.le_refl _) x hx)
    exact A.nm x (List.mem_map.mpr ⟨r, innR_sub m, e⟩)⟩, hl⟩
def ct_single_ring (K : PySem.W.Frag) : Ct := Ct1 fun a ka out => ka = [] ∧ ((∃ ps es gs q, a = .val (AskD K ps es gs) ∧ AskOk ps es gs ∧ HasQ ps es gs q ∧ out = fun o k => k = [] ∧ ∃ d, o = .ret d) ∨ (∃ ps es gr x, a = .val (AskD K ps es (lnN gr)) ∧ NoR ps es gr x ∧ out = nrO K ps es x))
section
variable {P : Program} {w : World} {K : PySem.W.Frag} {mg : Str → Option Value} {base : Heap}
theorem ok_single_ring (T : Tx K mg) (F_Round_root : Fn P w K mg base 10 (He.ma K (He.ga K "Round") "root") ["self"] (ct_Round_root K)) (F_Asked_part : Fn P w K mg base 12 (He.ma K (He.ga K "Asked") "part") ["self"] (ct_Asked_part K)) (F_Asked_round : Fn P w K mg base 12 (He.ma K (He.ga K "Asked") "round") ["self"] (ct_Asked_round K)) : Fn P w K mg base 14 (He.ga K "single_ring") ["asked"] (ct_single_ring K) := by
  obtain ⟨fd, F⟩ := T.d_single_ring
  refine fn_ok F sc_single_ring (fun _ _ _ _ _ _ us hl => match us, hl with | [_], _ => rfl) ct1_len (fun cdv A outer s H E hr => ⟨_, (pss_cons (ps_asg (pe_meth0 (pv 0) T.cl_Asked T.me_Asked_part (F_Asked_part.up (by decide)).ok hr (F_Asked_part.up (by decide)).bn .nil (pass_own rfl rfl rfl rfl)) (pg_tup rfl (pgs_cons (pg_name (i := 1) sc_single_ring.nd rfl (by first | exact Or.inl rfl | exact Or.inr rfl)) (pgs_cons (pg_name (i := 2) sc_single_ring.nd rfl (by first | exact Or.inl rfl | exact Or.inr rfl)) pgs_nil))))
      (pss_one (ps_ret (pe_ifExp (pt_cmpR (op_eqP (by have := (hr).units; exact this)) (pe_callB call_lenU rfl T.n_len (by decide +kernel) (pa_cons (pv 1) pa_nil)) (pe_callB call_lenU rfl T.n_len (by decide +kernel) (pa_cons (pv 2) pa_nil)) (nomark _)) (pe_ix ix_seq (pe_meth0 (pe_meth0 (pv 0) T.cl_Asked T.me_Asked_round (F_Asked_round.up (by decide)).ok hr (F_Asked_round.up (by decide)).bn .nil (pass_own rfl rfl rfl rfl)) T.cl_Round T.me_Round_root (F_Round_root.up (by decide)).ok hr (F_Round_root.up (by decide)).bn .nil (pass_own rfl rfl rfl rfl)) pe_int fun _ _ => rfl) pe_non)))), fun ws ka out B F0 Q hC hR hX => ?_⟩)
  obtain ⟨a, rfl, rfl, ⟨ps, es, gs, q, rfl, A, h, rfl⟩ | ⟨ps, es, gr, x, rfl, N, rfl⟩⟩ := hC
  rotate_left
  · exact q_asgP hX (evx_meth (k2 := []) (k3 := []) [] (ev_var rfl) .v rfl ea_nil ⟨_, rfl, .inr ⟨ps, es, gr, x, rfl, N, rfl, rfl⟩⟩ rfl) ⟨rfl, rfl⟩
  have gl := A.pl
  have el := A.el
  refine q_asgT (w := .val (prE q)) (ev_methP (ev_var rfl) .v rfl ea_nil ⟨_, rfl, .inl ⟨ps, es, gs, q, rfl, A.ok.pd, A.ps2, A.ok.ed, by omega, by omega, h.pw, rfl, rfl⟩⟩) at_t2 ?_
  obtain ⟨r1, r2⟩ := rnd_ok A h
  by_cases hlen : q.1.length = q.2.length
  · exact g_ret hR (ev_ifT (k1 := []) ((et_test (ev_eqI (ev_len (ev_var rfl) .vt) (ev_len (ev_var rfl) .vt))).to (by rw [stD_len, stD_len, hlen]; exact beq_self_eq_true _)) (ev_ixV (ev_methP (ev_methP (d := RD K (stD (rndL ps es gs q))) (ev_var rfl) .v rfl ea_nil ⟨_, rfl, ps, es, gs, q, rfl, A.ok.pd, A.ps2, A.ok.ed, A.nm, by omega, by omega, h.pw, h.q2, h.tw, rfl, rfl⟩) .v rfl ea_nil ⟨_, rfl, rndL ps es gs q, rfl, r1, by omega, rfl, rfl⟩) ev_int .vt (atI_nat (j := 0) rfl))) ⟨rfl, _, rfl⟩
  · exact g_ret hR (ev_ifF (k1 := []) ((et_test (ev_eqI (ev_len (ev_var rfl) .vt) (ev_len (ev_var rfl) .vt))).to (by rw [stD_len, stD_len]; exact beq_eq_false_iff_ne.mpr (by omega))) ev_non) ⟨rfl, _, rfl⟩
end
def ct_parting_stretch (K : PySem.W.Frag) : Ct := Ct2 fun a b ka out => ∃ ps es gr qs fs hr, a = .val (AskD K ps es (lnN gr)) ∧ b = .val (AskD K qs fs (lnN hr)) ∧ AskOk ps es (lnN gr) ∧ AskOk qs fs (lnN hr) ∧ ka = [] ∧ ((∃ x, lackO (lnN gr) (lnN hr) = some x ∧ out = Xt (He.ga K "NoLane") [("name", .str x)] []) ∨
  (lackO (lnN gr) (lnN hr) = none ∧ ((∃ x, NoR ps es gr x ∧ out = nrO K ps es x) ∨ (∃ q x, HasQ ps es (lnN gr) q ∧ NoR qs fs hr x ∧ out = nrO K qs fs x))))
section
variable {P : Program} {w : World} {K : PySem.W.Frag} {mg : Str → Option Value} {base : Heap}
theorem ok_parting_stretch (T : Tx K mg) (F_check_same : Fn P w K mg base 6 (He.ga K "check_same") ["one", "two"] (ct_check_same K)) (F_single_ring : Fn P w K mg base 14 (He.ga K "single_ring") ["asked"] (ct_single_ring K)) : Fn P w K mg base 16 (He.ga K "parting_stretch") ["one", "two"] (ct_parting_stretch K) := by
  obtain ⟨fd, F⟩ := T.d_parting_stretch
  refine fn_ok F sc_parting_stretch (fun _ _ _ _ _ _ us hl => match us, hl with | [_, _], _ => rfl) ct2_len (fun cdv A outer s H E hr => ⟨_, (pss_cons (ps_expr (pe_call (F_check_same.up (by decide)).ok hr rfl T.g_check_same.1 T.g_check_same.2 (F_check_same.up (by decide)).bn .nil (pass_own rfl rfl rfl rfl) (pa_cons (pv 0) (pa_cons (pv 1) pa_nil))))
      (pss_cons (ps_set (i := 2) sc_parting_stretch.nd rfl (by first | exact Or.inl rfl | exact Or.inr rfl) (pe_call (F_single_ring.up (by decide)).ok hr rfl T.g_single_ring.1 T.g_single_ring.2 (F_single_ring.up (by decide)).bn .nil (pass_own rfl rfl rfl rfl) (pa_cons (pv 0) pa_nil)))
      (pss_cons (ps_set (i := 3) sc_parting_stretch.nd rfl (by first | exact Or.inl rfl | exact Or.inr rfl) (pe_call (F_single_ring.up (by decide)).ok hr rfl T.g_single_ring.1 T.g_single_ring.2 (F_single_ring.up (by decide)).bn .nil (pass_own rfl rfl rfl rfl) (pa_cons (pv 1) pa_nil)))
      (pss_cons ps_no
      (pss_cons ps_no
      (pss_cons ps_no
      (pss_cons ps_no
      (pss_one ps_no)))))))), fun ws ka out B F0 Q hC hR hX => ?_⟩)
  obtain ⟨a, b, rfl, ps, es, gr, qs, fs, hr1, rfl, rfl, A, B, rfl, ho⟩ := hC
  have gl := A.gl
  have hl := B.gl
  have con : ∀ {o}, ((∃ x, lackO (lnN gr) (lnN hr1) = some x ∧ o = Xt (He.ga K "NoLane") [("name", .str x)] []) ∨ (lackO (lnN gr) (lnN hr1) = none ∧ o = Rt .non [])) → ct_check_same K [.val (AskD K ps es (lnN gr)), .val (AskD K qs fs (lnN hr1))] [] o := fun h => ⟨_, _, rfl, ps, es, lnN gr, qs, fs, lnN hr1, rfl, rfl, by omega, by omega, rfl, h⟩
  rcases ho with ⟨x, hx, rfl⟩ | ⟨hx, ho⟩
  · exact q_dropP hX (evx_call (k2 := []) (kr := []) (k3 := []) (ea2 (ev_var rfl) (ev_var rfl)) (con (.inl ⟨x, hx, rfl⟩)) rfl) ⟨rfl, rfl⟩
  refine q_drop (w := .val .non) (ev_callP (ea2 (ev_var rfl) (ev_var rfl)) (con (.inr ⟨hx, rfl⟩))) ?_
  rcases ho with ⟨x, N, rfl⟩ | ⟨q, x, h, N, rfl⟩
  · exact q_asgP hX (evx_call (k2 := []) (kr := []) (k3 := []) (ea1 (ev_var rfl)) ⟨_, rfl, rfl, .inr ⟨ps, es, gr, x, rfl, N, rfl⟩⟩ rfl) ⟨rfl, rfl⟩
  refine q_asgR (evr_call (k1 := []) [] (ea1 (ev_var rfl)) ⟨_, rfl, rfl, .inl ⟨ps, es, lnN gr, q, rfl, A, h, rfl⟩⟩ (fun o k h => h.2)) ?_
  rintro _ _ ⟨d, k2, ⟨rfl, _⟩, rfl, rfl⟩
  exact q_asgP hX (evx_call (k2 := []) (kr := []) (k3 := []) (ea1 (ev_var rfl)) ⟨_, rfl, rfl, .inr ⟨qs, fs, hr1, x, rfl, N, rfl⟩⟩ rfl) ⟨rfl, rfl⟩
end
theorem Rch.trans {es : List Ln} {p q z : Str} (a : Rch es p q) (b : Rch es q z) : Rch es p z := by
  induction b with
  | refl => exact a
  | step _ m e ih => exact .step ih m e
theorem Wk.rows {es : List Ln} {q : Str} : ∀ {ls : List Str} {p : Str}, Wk es p ls q → ∀ l ∈ ls, ∃ r ∈ es, r.1 = l ∧ Rch es p r.2.1 ∧ Rch es r.2.2 q
  | [], _, _, l, h => by cases h
  | x :: ls, p, ⟨r, m, e1, e2, h⟩, l, hl => by
    rcases List.mem_cons.mp hl with rfl | hl
    · exact ⟨r, m, e1, e2 ▸ .refl, Wk.rch .refl h⟩
    · obtain ⟨r', m', e1', a, b⟩ := Wk.rows h l hl
      exact ⟨r', m', e1', (Rch.step (x := p) .refl m e2).trans a, b⟩
theorem Wk.first {es : List Ln} {p q l : Str} {ls : List Str} (h : Wk es p (l :: ls) q) : ∃ r ∈ es, r.1 = l ∧ r.2.1 = p := let ⟨r, m, e1, e2, _⟩ := h; ⟨r, m, e1, e2⟩
/-- one reaches the other, both ways -/
def Mt (es : List Ln) (p q : Str) : Prop := Rch es p q ∧ Rch es q p
theorem mem_mutL {ps : List Str} {es : List Ln} {p q : Str} (hp : p ∈ ps) : q ∈ mutL ps es p ↔ q ∈ ps ∧ Mt es p q := by
  classical
  rw [← mutL_eq ps es p hp, List.mem_filter, Bool.and_eq_true]
  constructor
  · rintro ⟨a, b, c⟩
    exact ⟨a, of_decide_eq_true b, of_decide_eq_true c⟩
  · rintro ⟨a, b, c⟩
    exact ⟨a, decide_eq_true b, decide_eq_true c⟩
theorem ln_uniq {es : List Ln} (hn : (lnN es).Nodup) {r r' : Ln} (h : r ∈ es) (h' : r' ∈ es) (e : r.1 = r'.1) : r = r' := by
  obtain ⟨i, hi⟩ := List.mem_iff_getElem?.mp h
  obtain ⟨j, hj⟩ := List.mem_iff_getElem?.mp h'
  have hij : i = j := by
    have h1 := lnN_at hi
    have h2 := lnN_at hj
    rw [e] at h1
    exact (List.getElem?_inj (List.getElem?_eq_some_iff.mp h1).1 hn).mp (h1.trans h2.symm)
  subst hij
  rw [hi] at hj
  exact Option.some.inj hj
/-- a closed walk lies in just the part of its posts -/
theorem holds_iff {ps : List Str} {es : List Ln} (ok : PtOk ps es) {q : Str} {l : Str} {ls : List Str} (hw : Wk es q (l :: ls) q) {p : Str} (hp : p ∈ ps) : (∀ x ∈ l :: ls, x ∈ innL es (mutL ps es p)) ↔ Mt es p q := by
  constructor
  · intro h
    have hl := h l List.mem_cons_self
    obtain ⟨r, hr, e⟩ := List.mem_map.mp (show l ∈ lnN _ from hl)
    obtain ⟨hr1, hr2⟩ := List.mem_filter.mp hr
    rw [Bool.and_eq_true, decide_eq_true_eq, decide_eq_true_eq] at hr2
    obtain ⟨r0, m0, e0, e1⟩ := hw.first
    have := ln_uniq ok.ed hr1 m0 (e.trans e0.symm)
    subst this
    rw [e1] at hr2
    exact ((mem_mutL hp).mp hr2.1).2
  · intro h x hx
    obtain ⟨r, m, e, a, b⟩ := hw.rows x hx
    have hs := ok.st r m
    have st : Rch es r.2.1 r.2.2 := .step .refl m rfl
    have m1 : r.2.1 ∈ mutL ps es p := (mem_mutL hp).mpr ⟨hs.1, h.1.trans a, (st.trans b).trans h.2⟩
    have m2 : r.2.2 ∈ mutL ps es p := (mem_mutL hp).mpr ⟨hs.2, (h.1.trans a).trans st, b.trans h.2⟩
    exact List.mem_map.mpr ⟨r, List.mem_filter.mpr ⟨m, by rw [decide_eq_true m1, decide_eq_true m2]; rfl⟩, e⟩
/-- all of ls lie in the part -/
def hldB (ls : List Str) (r : List Str × List Str) : Bool := decide ((ls.filter fun l => !decide (l ∈ r.2)) = [])
theorem hldB_iff {ls : List Str} {r : List Str × List Str} : hldB ls r = true ↔ ∀ x ∈ ls, x ∈ r.2 := by
  unfold hldB
  rw [decide_eq_true_eq, List.filter_eq_nil_iff]
  constructor
  · intro h x hx
    have := h x hx
    simpa using this
  · intro h x hx
    simp [h x hx]
theorem snoc_ind {P : List Str → Prop} (h0 : P []) (hs : ∀ xs x, P xs → P (xs ++ [x])) (xs : List Str) : P xs := by
  have : ∀ ys : List Str, P ys.reverse := fun ys => by
    induction ys with
    | nil => exact h0
    | cons y l ih => rw [List.reverse_cons]; exact hs _ _ ih
  have h := this xs.reverse
  rwa [List.reverse_reverse] at h
theorem one_part {ps : List Str} {es : List Ln} (ok : PtOk ps es) {q : Str} {l : Str} {ls : List Str} (hw : Wk es q (l :: ls) q) : ((prL ps es ps).2.filter (hldB (l :: ls))).length = 1 := by
  have hq : q ∈ ps := by
    obtain ⟨r, m, _, e⟩ := hw.first
    exact e ▸ (ok.st r m).1
  have key : ∀ xs : List Str, (∀ x ∈ xs, x ∈ ps) → (∀ x ∈ xs, x ∈ (prL ps es xs).1) ∧ (∀ x z, x ∈ (prL ps es xs).1 → Mt es x z → z ∈ ps → z ∈ (prL ps es xs).1) ∧
      ((prL ps es xs).2.filter (hldB (l :: ls))).length = if q ∈ (prL ps es xs).1 then 1 else 0 := by
    intro xs
    induction xs using snoc_ind with
    | h0 => exact fun _ => ⟨fun x h => (by cases h), fun x z h => (by cases h), rfl⟩
    | hs xs p ih =>
    intro hs
    obtain ⟨i1, i2, i3⟩ := ih fun x hx => hs x (List.mem_append_left _ hx)
    have hp : p ∈ ps := hs p (List.mem_append_right _ List.mem_cons_self)
    rw [prL_snoc]
    unfold prStep
    by_cases hk : p ∈ (prL ps es xs).1
    · rw [if_pos hk]
      refine ⟨fun x hx => ?_, i2, i3⟩
      rcases List.mem_append.mp hx with hx | hx
      · exact i1 x hx
      · rw [List.mem_singleton.mp hx]; exact hk
    · rw [if_neg hk]
      have hpp : p ∈ mutL ps es p := (mem_mutL hp).mpr ⟨hp, .refl, .refl⟩
      refine ⟨fun x hx => ?_, fun x z hx hm hz => ?_, ?_⟩
      · rcases List.mem_append.mp hx with hx | hx
        · exact List.mem_append_left _ (i1 x hx)
        · rw [List.mem_singleton.mp hx]; exact List.mem_append_right _ hpp
      · rcases List.mem_append.mp hx with hx | hx
        · exact List.mem_append_left _ (i2 x z hx hm hz)
        · have := ((mem_mutL hp).mp hx).2
          exact List.mem_append_right _ ((mem_mutL hp).mpr ⟨hz, this.1.trans hm.1, hm.2.trans this.2⟩)
      · have hh := holds_iff ok hw hp
        by_cases hm : Mt es p q
        · have hqk : ¬ q ∈ (prL ps es xs).1 := fun z => hk (i2 q p z ⟨hm.2, hm.1⟩ hp)
          have hqn : q ∈ (prL ps es xs).1 ++ mutL ps es p := List.mem_append_right _ ((mem_mutL hp).mpr ⟨hq, hm⟩)
          have hin := hh.mpr hm
          have hne : ¬ innL es (mutL ps es p) = [] := fun z => by
            have := hin l List.mem_cons_self
            rw [z] at this
            cases this
          rw [if_neg hqk] at i3
          rw [if_neg hne, if_pos hqn, List.filter_append, List.length_append, i3]
          have : hldB (l :: ls) (mutL ps es p, innL es (mutL ps es p)) = true := hldB_iff.mpr hin
          rw [List.filter_cons, this]
          rfl
        · have hqm : ¬ q ∈ mutL ps es p := fun z => hm ((mem_mutL hp).mp z).2
          have hqe : (q ∈ (prL ps es xs).1 ++ mutL ps es p) ↔ q ∈ (prL ps es xs).1 := by
            rw [List.mem_append]
            exact ⟨fun z => z.resolve_right hqm, .inl⟩
          have hf : hldB (l :: ls) (mutL ps es p, innL es (mutL ps es p)) = false := Bool.eq_false_iff.mpr fun z => hm (hh.mp (hldB_iff.mp z))
          have hr : (if q ∈ (prL ps es xs).1 ++ mutL ps es p then 1 else 0) = if q ∈ (prL ps es xs).1 then 1 else 0 := by simp only [hqe]
          show ((if innL es (mutL ps es p) = [] then _ else _ : List (List Str × List Str)).filter _).length = _
          rw [hr, ← i3]
          split
          · rfl
          · rw [List.filter_append, List.filter_cons, hf]
            simp
  have := (key ps fun _ h => h)
  rw [this.2.2, if_pos (this.1 q hq)]
open Classical in
theorem mem_rchL {ps : List Str} {es : List Ln} {p q : Str} : q ∈ rchL ps es p ↔ q ∈ ps ∧ Rch es p q := by
  unfold rchL
  rw [List.mem_filter, decide_eq_true_eq]
/-- the part in which a lane from s to e is an inner lane, or None -/
noncomputable def lpF (ps : List Str) (es : List Ln) (s e : Str) : Option (List Str × List Str) := if s ∈ rchL ps es e then some (mutL ps es s, innL es (mutL ps es s)) else none
def lpE (o : Option (List Str × List Str)) : D := match o with
  | some r => .lst [.lst (stD r.1), .lst (stD r.2)]
  | none => .non
def ct_law_part (K : PySem.W.Frag) : Ct := Ct2 fun a b ka out => ∃ ps es r, a = .val (PtD ps es) ∧ b = .val (.str r.1) ∧ r ∈ es ∧ (∀ r ∈ es, r.2.1 ∈ ps ∧ r.2.2 ∈ ps) ∧ (lnN es).Nodup ∧ ps.length ≤ 900 ∧ es.length ≤ 40000 ∧ ka = [] ∧ out = Rt (lpE (lpF ps es r.2.1 r.2.2)) []
section
variable {P : Program} {w : World} {K : PySem.W.Frag} {mg : Str → Option Value} {base : Heap}
theorem ok_law_part (T : Tx K mg) (F_law_ends : Fn P w K mg base 4 (He.ga K "_law_ends") ["_law_parts"] (ct_law_ends K)) (F_law_ways : Fn P w K mg base 4 (He.ga K "_law_ways") ["_law_parts", "_law_start"] (ct_law_ways K)) : Fn P w K mg base 6 (He.ga K "_law_part") ["_law_parts", "_law_lane"] (ct_law_part K) := by
  obtain ⟨fd, F⟩ := T.d_law_part
  refine fn_ok F sc_law_part (fun _ _ _ _ _ _ us hl => match us, hl with | [_, _], _ => rfl) ct2_len (fun cdv A outer s H E hr => ⟨_, (pss_cons (ps_set (i := 2) sc_law_part.nd rfl (by first | exact Or.inl rfl | exact Or.inr rfl) (pe_call (F_law_ends.up (by decide)).ok hr rfl T.g_law_ends.1 T.g_law_ends.2 (F_law_ends.up (by decide)).bn .nil (pass_own rfl rfl rfl rfl) (pa_cons (pv 0) pa_nil)))
      (pss_cons (ps_asg (pe_dget (hu1 hr) (pv 2) (pv 1) fun _ _ => rfl) (pg_tup rfl (pgs_cons (pg_name (i := 3) sc_law_part.nd rfl (by first | exact Or.inl rfl | exact Or.inr rfl)) (pgs_cons (pg_name (i := 4) sc_law_part.nd rfl (by first | exact Or.inl rfl | exact Or.inr rfl)) pgs_nil))))
      (pss_cons (ps_set (i := 5) sc_law_part.nd rfl (by first | exact Or.inl rfl | exact Or.inr rfl) (pe_call (F_law_ways.up (by decide)).ok hr rfl T.g_law_ways.1 T.g_law_ways.2 (F_law_ways.up (by decide)).bn .nil (pass_own rfl rfl rfl rfl) (pa_cons (pv 0) (pa_cons (pv 3) pa_nil))))
      (pss_cons (ps_set (i := 7) sc_law_part.nd rfl (by first | exact Or.inl rfl | exact Or.inr rfl) (pe_lc (te := (tVar 6)) (tt := (tAnd (tB (tDIn (tVar 6) (tVar 5))) (tB (tDIn (tVar 3) (tCall (spC K (ct_law_ways K)) [] (fun _ _ _ => False) (tCons (tVar 0) (tCons (tVar 6) tNil))))))) (own := [("_law_post", 6)]) rfl sc_law_part.nd (pi_seq (pe_ix ix_seq (pv 0) pe_int fun _ _ => rfl)) (blk_ok ["_law_parts", "_law_lane", "_law_ends_here", "_law_start", "_law_end", "_law_ways_here", "_law_post", "_law_posts", "_law_row"] (defScope s_law_part) rfl rfl (by decide +kernel)) (fun _ _ _ _ _ => (pg_name (i := 6) sc_law_part.nd rfl (by first | exact Or.inl rfl | exact Or.inr rfl))) (fun _ _ _ _ _ => (pts_one (PW.pt (pw_and (pt_cmp (pc_din (hu1 hr) (pv 6) (pv 5)) (by with_unfolding_all rfl)) (pw_and1 (pt_cmp (pc_din (hu1 hr) (pv 3) (pe_call (F_law_ways.up (by decide)).ok hr rfl T.g_law_ways.1 T.g_law_ways.2 (F_law_ways.up (by decide)).bn .nil passes_no (pa_cons (pv 0) (pa_cons (pv 6) pa_nil)))) (by with_unfolding_all rfl))))))) (fun _ _ _ _ _ => (pv 6))))
      (pss_cons (ps_if (pt_cmp (pc_dnotin (hu1 hr) (pv 3) (pe_call (F_law_ways.up (by decide)).ok hr rfl T.g_law_ways.1 T.g_law_ways.2 (F_law_ways.up (by decide)).bn .nil (pass_own rfl rfl rfl rfl) (pa_cons (pv 0) (pa_cons (pv 4) pa_nil)))) (by with_unfolding_all rfl))
      (pss_one (ps_ret pe_non))
      pss_nil)
      (pss_one (ps_ret (pe_lst (pa_cons (pv 7) (pa_cons (pe_lc (te := (tOp (rIx K) (tVar 8) (tC (.int 0)))) (tt := (tAnd (tTest (tOp (rInU K) (tOp (rIx K) (tVar 8) (tC (.int 1))) (tVar 7))) (tTest (tOp (rInU K) (tOp (rIx K) (tVar 8) (tC (.int 2))) (tVar 7))))) (own := [("_law_row", 8)]) rfl sc_law_part.nd (pi_seq (pe_ix ix_seq (pv 0) pe_int fun _ _ => rfl)) (blk_ok ["_law_parts", "_law_lane", "_law_ends_here", "_law_start", "_law_end", "_law_ways_here", "_law_post", "_law_posts", "_law_row"] (defScope s_law_part) rfl rfl (by decide +kernel)) (fun _ _ _ _ _ => (pg_name (i := 8) sc_law_part.nd rfl (by first | exact Or.inl rfl | exact Or.inr rfl))) (fun _ _ _ _ _ => (pts_one (PW.pt (pw_and (pt_cmpR op_inU (pe_ix ix_seq (pv 8) pe_int fun _ _ => rfl) (pv 7) (by with_unfolding_all rfl)) (pw_and1 (pt_cmpR op_inU (pe_ix ix_seq (pv 8) pe_int fun _ _ => rfl) (pv 7) (by with_unfolding_all rfl))))))) (fun _ _ _ _ _ => (pe_ix ix_seq (pv 8) pe_int fun _ _ => rfl))) pa_nil)))))))))), fun ws ka out B F0 Q hC hR hX => ?_⟩)
  obtain ⟨a, b, rfl, ps, es, r, rfl, rfl, hr, hst, hn, hl, hel, rfl, rfl⟩ := hC
  have hs : r.2.1 ∈ ps := (hst r hr).1
  have he : r.2.2 ∈ ps := (hst r hr).2
  have hps : ∀ r ∈ es, r.2.2 ∈ ps := fun r h => (hst r h).2
  refine q_asg (ev_callP (ea1 (ev_var rfl)) ⟨_, rfl, ps, es, rfl, hn, by omega, rfl, rfl⟩) ?_
  refine q_asgT (ev_dgetV (d := lnD r) (ev_var rfl) (ev_var rfl) .v (enD_getm hn hr)) at_t2 ?_
  refine q_call (kr := []) (k1 := []) (ea2 (ev_var rfl) (ev_var rfl)) ⟨_, _, rfl, ps, es, r.2.1, rfl, rfl, hs, hps, by omega, by omega, rfl, rfl⟩ (fun o k ⟨wy, h, _⟩ => ⟨_, h⟩) ?_
  rintro _ _ ⟨wy, e, rfl, hwy⟩
  cases e
  refine q_asg (w := .val (.lst (stD (mutL ps es r.2.1)))) ((evn_filt (xs := ps) (g := fun s => W.val (.str s)) (f := fun s => D.str s) (p := fun q => @decide _ (Classical.propDecidable (Rch es r.2.1 q)) && @decide _ (Classical.propDecidable (Rch es q r.2.1))) (ei_strs (ev_ixV (ev_var rfl) ev_int .vl at0)) (by decide) (by omega) ⟨trivial, fun _ => trivial⟩ (fun q hq => et_and (et_B ((ev_din (ev_var rfl) (ev_var rfl) .v).to ?t1)) fun _ => et_B (ev_dinR (k2 := []) (ev_var rfl) (evr_call (k1 := []) [] (ea2 (ev_var rfl) (ev_var rfl)) ⟨_, _, rfl, ps, es, q, rfl, rfl, hq, hps, by omega, by omega, rfl, rfl⟩ (fun o k ⟨wy, h, _⟩ => ⟨_, h⟩)) ?t2)) (fun q hq _ => ev_var rfl)).lst.to ?t3) ?go
  case t1 =>
    rw [show wyD wy = tbD _ wy from rfl, tb_in]
    refine congrArg (fun z => W.val (.bl z)) (decide_eq_decide.mpr (hwy.all q))
  case t2 =>
    rintro w k ⟨d, k2, ⟨wy2, e1, e2, hwy2⟩, e3, e4⟩
    cases e1
    subst e2 e3 e4
    refine ⟨rfl, wyD wy2, false, .v, ?_⟩
    rw [show wyD wy2 = tbD _ wy2 from rfl, tb_in]
    exact decide_eq_decide.mpr (hwy2.all r.2.1)
  case t3 =>
    refine congrArg (fun z => W.val (.lst (stD z))) ?_
    exact mutL_eq ps es r.2.1 hs
  case go =>
  have hml := mutL_len ps es r.2.1
  refine q_when (b := !decide (r.2.1 ∈ rchL ps es r.2.2)) (et_B (ev_dniR (k2 := []) (ev_var rfl) (evr_call (k1 := []) [] (ea2 (ev_var rfl) (ev_var rfl)) ⟨_, _, rfl, ps, es, r.2.2, rfl, rfl, he, hps, by omega, by omega, rfl, rfl⟩ (fun o k ⟨wy, h, _⟩ => ⟨_, h⟩)) ?t4)) (fun hb => ?r1) (fun hb => ?r2)
  case t4 =>
    rintro w k ⟨d, k2, ⟨wy2, e1, e2, hwy2⟩, e3, e4⟩
    cases e1
    subst e2 e3 e4
    refine ⟨rfl, wyD wy2, false, .v, ?_⟩
    rw [show wyD wy2 = tbD _ wy2 from rfl, tb_in]
    refine decide_eq_decide.mpr ((hwy2.all r.2.1).trans ?_)
    rw [mem_rchL]
    exact ⟨fun h => ⟨hs, h⟩, fun h => h.2⟩
  case r1 =>
    rw [Bool.not_eq_true', decide_eq_false_iff_not] at hb
    exact g_ret hR ev_non ⟨by unfold lpF; rw [if_neg hb]; rfl, rfl⟩
  case r2 =>
    rw [Bool.not_eq_false', decide_eq_true_eq] at hb
    have e : lpE (lpF ps es r.2.1 r.2.2) = .lst [.lst (stD (mutL ps es r.2.1)), .lst (stD (innL es (mutL ps es r.2.1)))] := by unfold lpF; rw [if_pos hb]; rfl
    rw [e] at hR
    refine g_ret hR (evn_lst (ds := [.lst (stD (mutL ps es r.2.1)), .lst (stD (innL es (mutL ps es r.2.1)))]) (ea2 (ev_var rfl) ((evn_filt (xs := es) (g := fun r => W.val (rwL r)) (f := fun r => D.str r.1) (p := fun x => decide (x.2.1 ∈ mutL ps es r.2.1) && decide (x.2.2 ∈ mutL ps es r.2.1)) (ei_map (ts := es) (f := rwL) (ev_ixV (ev_var rfl) ev_int .vl (atI_nat (j := 1) rfl))) (by decide) (by omega) ⟨trivial, fun _ => trivial⟩ (fun x hx => et_and (et_test (ev_inL (ev_ixV (ev_var rfl) ev_int .vt (atI_nat (j := 1) rfl)) (ev_var rfl) .vl)) fun _ => et_test (ev_inL (ev_ixV (ev_var rfl) ev_int .vt (atI_nat (j := 2) rfl)) (ev_var rfl) .vl)) (fun x hx _ => ev_ixV (ev_var rfl) ev_int .vt (atI_nat (j := 0) rfl))).lst.to (congrArg (fun z => W.val (.lst z)) (by unfold innL lnN stD; rw [List.map_map]; rfl)))) (show 2 ≤ 100000 by decide)).lst ⟨rfl, rfl⟩
end
def ct_law_in_order (K : PySem.W.Frag) : Ct := Ct2 fun a b ka out => ∃ ps es ws t, a = .val (PtD ps es) ∧ Lk [] b t (stD ws) false ∧ es.length ≤ 10000 ∧ ka = [] ∧ out = Rt (.tup (stD (goalL es ws))) []
section
variable {P : Program} {w : World} {K : PySem.W.Frag} {mg : Str → Option Value} {base : Heap}
theorem ok_law_in_order (T : Tx K mg) : Fn P w K mg base 4 (He.ga K "_law_in_order") ["_law_parts", "_law_lanes_here"] (ct_law_in_order K) := by
  obtain ⟨fd, F⟩ := T.d_law_in_order
  refine fn_ok F sc_law_in_order (fun _ _ _ _ _ _ us hl => match us, hl with | [_, _], _ => rfl) ct2_len (fun cdv A outer s H E hr => ⟨_, (pss_one (ps_ret (pe_callTy call_tupU rfl T.n_tuple (by decide +kernel) (pa_cons (pe_lc (te := (tOp (rIx K) (tVar 2) (tC (.int 0)))) (tt := (tTest (tOp (rInU K) (tOp (rIx K) (tVar 2) (tC (.int 0))) (tVar 1)))) (own := [("_law_row", 2)]) rfl sc_law_in_order.nd (pi_seq (pe_ix ix_seq (pv 0) pe_int fun _ _ => rfl)) (blk_ok ["_law_parts", "_law_lanes_here", "_law_row"] (defScope s_law_in_order) rfl rfl (by decide +kernel)) (fun _ _ _ _ _ => (pg_name (i := 2) sc_law_in_order.nd rfl (by first | exact Or.inl rfl | exact Or.inr rfl))) (fun _ _ _ _ _ => (pts_one (pt_cmpR op_inU (pe_ix ix_seq (pv 2) pe_int fun _ _ => rfl) (pv 1) (by with_unfolding_all rfl)))) (fun _ _ _ _ _ => (pe_ix ix_seq (pv 2) pe_int fun _ _ => rfl))) pa_nil)))), fun ws ka out B F0 Q hC hR hX => ?_⟩)
  obtain ⟨a, b, rfl, ps, es, ws, t, rfl, lb, hl, rfl, rfl⟩ := hC
  have e0 : (es.filter fun r => decide (r.1 ∈ ws)).map (fun r => D.str r.1) = stD (goalL es ws) := by
    unfold goalL lnN stD
    rw [List.filter_map, List.map_map]
    rfl
  exact g_ret hR (ev_cb (ea1 ((evn_filt (xs := es) (g := fun r => W.val (rwL r)) (f := fun r => D.str r.1) (p := fun r => decide (r.1 ∈ ws)) (ei_map (ts := es) (f := rwL) (ev_ixV (ev_var rfl) ev_int .vl (atI_nat (j := 1) rfl))) (by decide) (by omega) ⟨trivial, fun _ => trivial⟩ (fun r hr => et_test (ev_inL (ev_ixV (d := .str r.1) (ev_var rfl) ev_int .vt (atI_nat (j := 0) rfl)) (ev_var rfl) lb)) (fun r hr _ => ev_ixV (ev_var rfl) ev_int .vt (atI_nat (j := 0) rfl))).lst.to (congrArg (fun z => W.val (.lst z)) e0))) (rc_tupL .vl (sqf_stD _ _))) ⟨rfl, rfl⟩
end
def ct_law_lanes (K : PySem.W.Frag) : Ct := Ct1 fun s ka out => ∃ ps es, s = .val (PtD ps es) ∧ es.length ≤ 10000 ∧ ka = [] ∧ out = Rt (.lst (stD (lnN es))) []
section
variable {P : Program} {w : World} {K : PySem.W.Frag} {mg : Str → Option Value} {base : Heap}
theorem ok_law_lanes (T : Tx K mg) : Fn P w K mg base 4 (He.ga K "_law_lanes") ["_law_parts"] (ct_law_lanes K) := by
  obtain ⟨fd, F⟩ := T.d_law_lanes
  refine fn_ok F sc_law_lanes (fun _ _ _ _ _ _ us hl => match us, hl with | [_], _ => rfl) ct1_len (fun cdv A outer s H E hr => ⟨_, (pss_one (ps_ret (pe_lc (te := (tOp (rIx K) (tVar 1) (tC (.int 0)))) (tt := tYes) (own := [("_law_row", 1)]) rfl sc_law_lanes.nd (pi_seq (pe_ix ix_seq (pv 0) pe_int fun _ _ => rfl)) (blk_ok ["_law_parts", "_law_row"] (defScope s_law_lanes) rfl rfl (by decide +kernel)) (fun _ _ _ _ _ => (pg_name (i := 1) sc_law_lanes.nd rfl (by first | exact Or.inl rfl | exact Or.inr rfl))) (fun _ _ _ _ _ => pts_nil) (fun _ _ _ _ _ => (pe_ix ix_seq (pv 1) pe_int fun _ _ => rfl))))), fun ws ka out B F0 Q hC hR hX => ?_⟩)
  obtain ⟨s, rfl, ps, es, rfl, hl, rfl, rfl⟩ := hC
  exact g_retL hR (evn_filt_to (evn_map (xs := es) (g := fun r => W.val (rwL r)) (f := fun r => D.str r.1) (ei_map (ts := es) (f := rwL) (ev_ixV (ev_var rfl) ev_int .vl (atI_nat (j := 1) rfl))) (by decide) (by omega) ⟨trivial, fun _ => trivial⟩ (fun r hr => ev_ixV (ev_var rfl) ev_int .vt (atI_nat (j := 0) rfl))) (show es.map (fun r => D.str r.1) = stD (lnN es) by unfold lnN stD; rw [List.map_map]; rfl)) ⟨rfl, rfl⟩
end
/-- the part of all wanted lanes, or None -/
noncomputable def ipF (ps : List Str) (es : List Ln) (ws : List Str) : Option (List Str × List Str) := match ws with
  | [] => none
  | w :: _ => match rowOf es w with
    | none => none
    | some r => match lpF ps es r.2.1 r.2.2 with
      | none => none
      | some q => if (ws.filter fun l => !decide (l ∈ q.2)) = [] then some q else none
theorem Wk.mono {es fs : List Ln} (h : ∀ r ∈ es, r ∈ fs) {q : Str} : ∀ {ls : List Str} {p : Str}, Wk es p ls q → Wk fs p ls q
  | [], _, e => e
  | _ :: _, _, ⟨r, m, e1, e2, w⟩ => ⟨r, h r m, e1, e2, Wk.mono h w⟩
theorem Wk.app {es : List Ln} {q z : Str} {ms : List Str} : ∀ {ls : List Str} {p : Str}, Wk es p ls q → Wk es q ms z → Wk es p (ls ++ ms) z
  | [], _, e, w => by
    obtain rfl := e
    exact w
  | _ :: _, _, ⟨r, m, e1, e2, w⟩, w2 => ⟨r, m, e1, e2, Wk.app w w2⟩
/-- the rows along a walk -/
theorem wk_at {es : List Ln} {q : Str} : ∀ {ls : List Str} {p : Str}, Wk es p ls q → ∀ {i : Nat} {x : Str}, ls[i]? = some x → ∃ r ∈ es, r.1 = x ∧ (i = 0 → r.2.1 = p) ∧ (i + 1 = ls.length → r.2.2 = q) ∧ ∀ y, ls[i + 1]? = some y → ∃ r' ∈ es, r'.1 = y ∧ r'.2.1 = r.2.2
  | [], _, _, i, x, h => by simp at h
  | l :: t, p, ⟨r, m, e1, e2, w⟩, 0, x, h => by
    cases h
    refine ⟨r, m, e1, fun _ => e2, fun z => ?_, fun y hy => ?_⟩
    · cases t with
      | nil => exact w
      | cons _ _ => simp at z
    · cases t with
      | nil => simp at hy
      | cons y2 t2 =>
        cases hy
        obtain ⟨r', m', e3, e4, _⟩ := w
        exact ⟨r', m', e3, e4⟩
  | l :: t, p, ⟨r, m, e1, e2, w⟩, i + 1, x, h => by
    obtain ⟨r', m', a1, a2, a3, a4⟩ := wk_at w (i := i) (x := x) (by simpa using h)
    refine ⟨r', m', a1, fun z => by omega, fun z => a3 (by rw [List.length_cons] at z; omega), fun y hy => a4 y (by simpa using hy)⟩
theorem getD_at {ls : List Str} {i : Nat} (h : i < ls.length) : ls[i]? = some (ls.getD i "") := by
  rw [List.getD_eq_getElem?_getD, List.getElem?_eq_getElem h]
  rfl
/-- a closed walk, seen as a cycle -/
theorem cyc_at {es : List Ln} (hn : (lnN es).Nodup) {ls : List Str} {p : Str} (w : Wk es p ls p) {i : Nat} (hi : i < ls.length) : ls.getD i "" ∈ lnN es ∧ enO es (ls.getD i "") = stO es (ls.getD ((i + 1) % ls.length) "") := by
  obtain ⟨r, m, e1, e2, e3, e4⟩ := wk_at w (getD_at hi)
  have h1 := enO_eq hn m
  rw [e1] at h1
  refine ⟨List.mem_map.mpr ⟨r, m, e1⟩, ?_⟩
  rw [h1]
  by_cases h : i + 1 = ls.length
  · rw [h, Nat.mod_self]
    obtain ⟨r0, m0, f1, f2, _⟩ := wk_at w (getD_at (show 0 < ls.length by omega))
    have h2 := stO_eq hn m0
    rw [f1] at h2
    rw [h2, e3 h, f2 rfl]
  · rw [Nat.mod_eq_of_lt (by omega)]
    obtain ⟨r', m', f1, f2⟩ := e4 _ (getD_at (show i + 1 < ls.length by omega))
    have h2 := stO_eq hn m'
    rw [f1] at h2
    rw [h2, f2]
theorem Rch.mono {es fs : List Ln} (h : ∀ r ∈ es, r ∈ fs) {p q : Str} (a : Rch es p q) : Rch fs p q := by
  induction a with
  | refl => exact .refl
  | step _ m e ih => exact .step ih (h _ m) e
/-- within a part one gets along by inner lanes -/
theorem rch_in {ps : List Str} {es : List Ln} (hst : ∀ r ∈ es, r.2.1 ∈ ps ∧ r.2.2 ∈ ps) {s p q : Str} (hs : s ∈ ps) (hp : p ∈ mutL ps es s) (hq : q ∈ mutL ps es s) (h : Rch es p q) : Rch (innR es (mutL ps es s)) p q := by
  obtain ⟨_, hp1, hp2⟩ := (mem_mutL hs).mp hp
  obtain ⟨_, hq1, hq2⟩ := (mem_mutL hs).mp hq
  have key : ∀ x, Rch es p x → Rch es x q → Rch (innR es (mutL ps es s)) p x := by
    intro x hx
    induction hx with
    | refl => exact fun _ => .refl
    | @step x r a m e ih =>
      intro hq'
      subst e
      have st : Rch es r.2.1 r.2.2 := .step .refl m rfl
      have b := ih (st.trans hq')
      have m1 : r.2.1 ∈ mutL ps es s := (mem_mutL hs).mpr ⟨(hst r m).1, hp1.trans a, (st.trans hq').trans hq2⟩
      have m2 : r.2.2 ∈ mutL ps es s := (mem_mutL hs).mpr ⟨(hst r m).2, hp1.trans (a.trans st), hq'.trans hq2⟩
      exact .step b (List.mem_filter.mpr ⟨m, by rw [decide_eq_true m1, decide_eq_true m2]; rfl⟩) rfl
  exact key q h .refl
theorem rch_wk {es : List Ln} {p q : Str} (h : Rch es p q) : ∃ ls, Wk es p ls q := by
  induction h with
  | refl => exact ⟨[], rfl⟩
  | @step x r _ m e ih =>
    obtain ⟨ls, hw⟩ := ih
    subst e
    exact ⟨_, hw.snoc m⟩
theorem prL_mem {ps : List Str} {es : List Ln} : ∀ {xs : List Str}, (∀ x ∈ xs, x ∈ ps) → ∀ {r : List Str × List Str}, r ∈ (prL ps es xs).2 → ∃ p ∈ ps, r = (mutL ps es p, innL es (mutL ps es p)) := by
  intro xs
  induction xs using snoc_ind with
  | h0 => intro _ r h; cases h
  | hs xs x ih =>
    intro hx r h
    have i := @ih fun y hy => hx y (List.mem_append_left _ hy)
    rw [prL_snoc] at h
    unfold prStep at h
    split at h
    · exact i h
    · dsimp only at h
      split at h
      · exact i h
      · rcases List.mem_append.mp h with h | h
        · exact i h
        · exact ⟨x, hx x (List.mem_append_right _ List.mem_cons_self), List.mem_singleton.mp h⟩
open Classical in
theorem mut_eq {ps : List Str} {es : List Ln} {p q : Str} (hp : p ∈ ps) (hq : q ∈ ps) (h : Mt es p q) : mutL ps es p = mutL ps es q := by
  rw [← mutL_eq ps es p hp, ← mutL_eq ps es q hq]
  refine List.filter_congr fun x _ => ?_
  rw [Bool.eq_iff_iff, Bool.and_eq_true, Bool.and_eq_true, decide_eq_true_eq, decide_eq_true_eq, decide_eq_true_eq, decide_eq_true_eq]
  exact ⟨fun ⟨a, b⟩ => ⟨h.2.trans a, b.trans h.1⟩, fun ⟨a, b⟩ => ⟨h.1.trans a, b.trans h.2⟩⟩
theorem inn_row {es : List Ln} (hn : (lnN es).Nodup) {qs : List Str} {r : Ln} (m : r ∈ es) (h : r.1 ∈ innL es qs) : r.2.1 ∈ qs ∧ r.2.2 ∈ qs := by
  obtain ⟨r', h1, e⟩ := List.mem_map.mp (show r.1 ∈ lnN _ from h)
  obtain ⟨h2, h3⟩ := List.mem_filter.mp h1
  obtain rfl := ln_uniq hn h2 m e
  rw [Bool.and_eq_true, decide_eq_true_eq, decide_eq_true_eq] at h3
  exact h3
theorem row_eq {es : List Ln} (hn : (lnN es).Nodup) {r : Ln} (m : r ∈ es) : rowOf es r.1 = some r := by
  obtain ⟨r', h⟩ := rowOf_in (List.mem_map.mpr ⟨r, m, rfl⟩ : r.1 ∈ lnN es)
  obtain ⟨m', e⟩ := rowOf_mem h
  rw [h, ln_uniq hn m' m e]
theorem all_mem {xs ys : List Str} (h : ∀ x, x ∈ xs ↔ x ∈ ys) (p : Str → Bool) : xs.all p = ys.all p := by
  rw [Bool.eq_iff_iff, List.all_eq_true, List.all_eq_true]
  exact ⟨fun a x hx => a x ((h x).mpr hx), fun a x hx => a x ((h x).mp hx)⟩
theorem pwF_mem {ps : List Str} {es : List Ln} {xs ys : List Str} (h : ∀ x, x ∈ xs ↔ x ∈ ys) : pwF ps es xs = pwF ps es ys := by
  unfold pwF
  congr 1
  funext r
  exact all_mem h _
theorem mem_goal {es : List Ln} {ws : List Str} (hw : ∀ w ∈ ws, w ∈ lnN es) (x : Str) : x ∈ goalL es ws ↔ x ∈ ws := by
  unfold goalL
  rw [List.mem_filter, decide_eq_true_eq]
  exact ⟨fun h => h.2, fun h => ⟨hw x h, h⟩⟩
theorem flt_nil {ws ls : List Str} : (ws.filter fun l => !decide (l ∈ ls)) = [] ↔ (ws.all fun x => decide (x ∈ ls)) = true := by
  rw [List.filter_eq_nil_iff, List.all_eq_true]
  constructor
  · intro h x hx
    have := h x hx
    simpa using this
  · intro h x hx
    have := h x hx
    simpa using this
/-- the part that the program finds is the one that the law finds -/
theorem pw_ip {ps : List Str} {es : List Ln} (ok : PtOk ps es) {ws : List Str} (hne : ws ≠ []) (hw : ∀ w ∈ ws, w ∈ lnN es) : pwF ps es ws = ipF ps es ws := by
  cases ws with
  | nil => exact absurd rfl hne
  | cons w0 wt =>
  obtain ⟨r, hr⟩ := rowOf_in (hw w0 List.mem_cons_self)
  obtain ⟨m, e0⟩ := rowOf_mem hr
  subst e0
  have hst := ok.st r m
  have hip : ipF ps es (r.1 :: wt) = match lpF ps es r.2.1 r.2.2 with
      | none => none
      | some q => if ((r.1 :: wt).filter fun l => !decide (l ∈ q.2)) = [] then some q else none := by
    unfold ipF
    dsimp only
    rw [hr]
  cases hp : pwF ps es (r.1 :: wt) with
  | some q =>
    unfold pwF at hp
    have h1 := List.mem_of_find?_eq_some hp
    have h2 := List.find?_some hp
    obtain ⟨p, hpp, rfl⟩ := prL_mem (fun _ h => h) h1
    dsimp only at h2
    have h3 := of_decide_eq_true (List.all_eq_true.mp h2 r.1 List.mem_cons_self)
    obtain ⟨a1, a2⟩ := inn_row ok.ed m h3
    have b1 := (mem_mutL hpp).mp a1
    have b2 := (mem_mutL hpp).mp a2
    have em : mutL ps es p = mutL ps es r.2.1 := mut_eq hpp hst.1 b1.2
    have hl : lpF ps es r.2.1 r.2.2 = some (mutL ps es r.2.1, innL es (mutL ps es r.2.1)) := if_pos (mem_rchL.mpr ⟨hst.1, b2.2.2.trans b1.2.1⟩)
    rw [hip, hl]
    dsimp only
    rw [em] at h2 ⊢
    rw [if_pos (flt_nil.mpr h2)]
  | none =>
    rw [hip]
    unfold lpF
    split
    · rfl
    · rename_i q hq
      split at hq
      · rename_i hs
        cases hq
        have hs := (mem_rchL.mp hs).2
        split
        · rename_i hf
          dsimp only at hf
          obtain ⟨ls, hwk⟩ := rch_wk hs
          have h1 := one_part ok (q := r.2.1) (l := r.1) (ls := ls) ⟨r, m, rfl, rfl, hwk⟩
          obtain ⟨x, hx⟩ : ∃ x, x ∈ (prL ps es ps).2.filter (hldB (r.1 :: ls)) := by
            cases hl : (prL ps es ps).2.filter (hldB (r.1 :: ls)) with
            | nil => rw [hl] at h1; cases h1
            | cons x _ => exact ⟨x, List.mem_cons_self⟩
          obtain ⟨hx1, hx2⟩ := List.mem_filter.mp hx
          obtain ⟨p, hpp, rfl⟩ := prL_mem (fun _ h => h) hx1
          have h3 := hldB_iff.mp hx2 r.1 List.mem_cons_self
          obtain ⟨a1, a2⟩ := inn_row ok.ed m h3
          have em : mutL ps es p = mutL ps es r.2.1 := mut_eq hpp hst.1 ((mem_mutL hpp).mp a1).2
          unfold pwF at hp
          have := List.find?_eq_none.mp hp _ hx1
          dsimp only at this
          rw [em, flt_nil.mp hf] at this
          exact absurd rfl this
        · rfl
      · cases hq
/-- the tour is a closed walk -/
theorem TwOk.wk {ps : List Str} {es : List Ln} {gs : List Str} (h : TwOk ps es gs) : ∀ n, n < gs.length → Wk es (stO es (gs.getD 0 "")) (twL ps es gs (n + 1)) (stO es (gs.getD ((n + 1) % gs.length) ""))
  | 0, hn => by
    obtain ⟨r, m, r', m', e1, e2, e, _, w, _⟩ := h.piece hn
    rw [twL_snoc, e]
    have a1 : gs.getD 0 "" = r.1 := by rw [List.getD_eq_getElem?_getD, e1]; rfl
    have a2 : gs.getD ((0 + 1) % gs.length) "" = r'.1 := by rw [List.getD_eq_getElem?_getD, e2]; rfl
    rw [a1, a2, stO_eq h.nd m, stO_eq h.nd m']
    exact ⟨r, m, rfl, rfl, w⟩
  | n + 1, hn => by
    obtain ⟨r, m, r', m', e1, e2, e, _, w, _⟩ := h.piece hn
    have ih := TwOk.wk h n (by omega)
    rw [twL_snoc, e]
    rw [Nat.mod_eq_of_lt (by omega)] at ih
    have a1 : gs.getD (n + 1) "" = r.1 := by rw [List.getD_eq_getElem?_getD, e1]; rfl
    have a2 : gs.getD ((n + 1 + 1) % gs.length) "" = r'.1 := by rw [List.getD_eq_getElem?_getD, e2]; rfl
    rw [a1, stO_eq h.nd m] at ih
    rw [a2, stO_eq h.nd m']
    exact ih.app ⟨r, m, rfl, rfl, w⟩
theorem TwOk.closed {ps : List Str} {es : List Ln} {gs : List Str} (h : TwOk ps es gs) : ∃ p, Wk es p (twL ps es gs gs.length) p := by
  have hp := List.length_pos_iff.mpr h.ne
  have := h.wk (gs.length - 1) (by omega)
  rw [show gs.length - 1 + 1 = gs.length by omega, Nat.mod_self] at this
  exact ⟨_, this⟩
theorem TwOk.has {ps : List Str} {es : List Ln} {gs : List Str} (h : TwOk ps es gs) : ∀ g ∈ gs, g ∈ twL ps es gs gs.length := fun g hg => by
  obtain ⟨i, hi, rfl⟩ := List.mem_iff_getElem.mp hg
  have key : ∀ n, i < n → n ≤ gs.length → gs[i] ∈ twL ps es gs n := by
    intro n
    induction n with
    | zero => intro z; omega
    | succ n ih =>
      intro h1 h2
      rw [twL_snoc]
      by_cases q : i = n
      · subst q
        refine List.mem_append_right _ ?_
        unfold pieceL
        rw [List.getD_eq_getElem?_getD, List.getElem?_eq_getElem hi]
        exact List.mem_cons_self
      · exact List.mem_append_left _ (ih (by omega) (by omega))
  exact key gs.length hi (Nat.le_refl _)
/-- what is found for wanted lanes of one part -/
theorem tw_of {ps : List Str} {es : List Ln} (ok : PtOk ps es) {ws : List Str} (hne : ws ≠ []) (hw : ∀ w ∈ ws, w ∈ lnN es) {q : List Str × List Str} (h : pwF ps es (goalL es ws) = some q) : q.2 = innL es q.1 ∧ TwOk ps (innR es q.1) (goalL es ws) := by
  have hpl := ok.pl
  have hel := ok.el
  unfold pwF at h
  have h1 := List.mem_of_find?_eq_some h
  have h2 := List.find?_some h
  obtain ⟨p, hp, rfl⟩ := prL_mem (fun _ h => h) h1
  dsimp only at h2 ⊢
  refine ⟨rfl, ?_, ?_, fun g hg => ?_, innR_nd ok.ed, fun r hr => ok.st r (innR_sub hr), fun r hr r' hr' => ?_, by omega, ?_⟩
  · intro z
    obtain ⟨w0, wt, rfl⟩ : ∃ x t, ws = x :: t := by
      cases ws with
      | nil => exact absurd rfl hne
      | cons x t => exact ⟨x, t, rfl⟩
    have := (mem_goal hw w0).mpr List.mem_cons_self
    rw [z] at this
    cases this
  · refine Nat.le_trans (List.length_filter_le _ _) ?_
    rw [lnN_len]
    exact hel
  · exact of_decide_eq_true (List.all_eq_true.mp h2 g hg)
  · have b1 := (List.mem_filter.mp hr).2
    have b2 := (List.mem_filter.mp hr').2
    rw [Bool.and_eq_true, decide_eq_true_eq, decide_eq_true_eq] at b1 b2
    obtain ⟨_, c1, c2⟩ := (mem_mutL hp).mp b1.2
    obtain ⟨_, d1, d2⟩ := (mem_mutL hp).mp b2.1
    exact rch_in ok.st hp b1.2 b2.1 (c2.trans d1)
  · exact Nat.le_trans (List.length_filter_le _ _) (by omega)
/-! ### a net with fewer rounds -/
theorem ip_head {ps : List Str} {es : List Ln} (ok : PtOk ps es) {wt : List Str} {r : Ln} (m : r ∈ es) (hw : ∀ w ∈ r.1 :: wt, w ∈ lnN es) {q : List Str × List Str} : pwF ps es (goalL es (r.1 :: wt)) = some q ↔ q = (mutL ps es r.2.1, innL es (mutL ps es r.2.1)) ∧ Rch es r.2.2 r.2.1 ∧ ∀ w ∈ r.1 :: wt, w ∈ innL es (mutL ps es r.2.1) := by
  have hr := row_eq ok.ed m
  have hip : ipF ps es (r.1 :: wt) = match lpF ps es r.2.1 r.2.2 with
      | none => none
      | some q => if ((r.1 :: wt).filter fun l => !decide (l ∈ q.2)) = [] then some q else none := by
    unfold ipF
    dsimp only
    rw [hr]
  rw [(pwF_mem (mem_goal hw)).trans (pw_ip ok (List.cons_ne_nil _ _) hw), hip]
  by_cases h1 : r.2.1 ∈ rchL ps es r.2.2
  · have e1 : lpF ps es r.2.1 r.2.2 = some (mutL ps es r.2.1, innL es (mutL ps es r.2.1)) := if_pos h1
    rw [e1]
    dsimp only
    by_cases h2 : ((r.1 :: wt).filter fun l => !decide (l ∈ innL es (mutL ps es r.2.1))) = []
    · rw [if_pos h2]
      have h3 := List.all_eq_true.mp (flt_nil.mp h2)
      exact ⟨fun e => by cases e; exact ⟨rfl, (mem_rchL.mp h1).2, fun w hw => of_decide_eq_true (h3 w hw)⟩, fun h => by rw [h.1]⟩
    · rw [if_neg h2]
      exact ⟨fun e => (by cases e), fun h => absurd (flt_nil.mpr (List.all_eq_true.mpr fun w hw => decide_eq_true (h.2.2 w hw))) h2⟩
  · have e1 : lpF ps es r.2.1 r.2.2 = none := if_neg h1
    rw [e1]
    exact ⟨fun e => (by cases e), fun h => absurd (mem_rchL.mpr ⟨(ok.st r m).1, h.2.1⟩) h1⟩
theorem wk_more {es fs : List Ln} (h : ∀ r ∈ es, r ∈ fs) {q : Str} : ∀ {ls : List Str} {p : Str}, Wk es p ls q → Wk fs p ls q
  | [], _, e => e
  | _ :: _, _, ⟨r, m, e1, e2, w⟩ => ⟨r, h r m, e1, e2, wk_more h w⟩
/-- a closed walk that takes a lane of the part lies in it -/
theorem tour_in {ps : List Str} {es : List Ln} (ok : PtOk ps es) {r0 : Ln} (h0 : r0 ∈ es) {T : List Str} {p : Str} (hT : Wk es p T p) (hr : r0.1 ∈ T) : p ∈ mutL ps es r0.2.1 ∧ Wk (innR es (mutL ps es r0.2.1)) p T p := by
  have hx := (ok.st r0 h0).1
  have rr : ∀ {p q : Str} {T : List Str}, Wk es p T q → Rch es p q := fun {p q T} => by
    induction T generalizing p with
    | nil => exact fun h => by cases (show p = q from h); exact .refl
    | cons l T ih =>
      rintro ⟨r, m, _, e2, h⟩
      have := ih h
      rw [← e2]
      exact (Rch.step .refl m rfl).trans this
  obtain ⟨r, m, e, h1, h2⟩ := hT.rows r0.1 hr
  obtain rfl := ln_uniq ok.ed m h0 e
  have back : Rch es r.2.1 p := (Rch.step .refl m rfl).trans h2
  have pps : p ∈ ps := by
    cases T with
    | nil => cases hr
    | cons l T =>
      obtain ⟨r', m', _, e2, _⟩ := hT
      rw [← e2]
      exact (ok.st r' m').1
  have hin : ∀ {q : Str} {T : List Str} {s : Str}, Wk es s T q → Rch es r.2.1 s → Rch es q r.2.1 → s ∈ ps → Wk (innR es (mutL ps es r.2.1)) s T q := fun {q T} => by
    induction T with
    | nil => exact fun h _ _ _ => h
    | cons l T ih =>
      rintro s ⟨r', m', e1, e2, h⟩ a b hs
      have c : Rch es r'.2.2 r.2.1 := (rr h).trans b
      have d : Rch es r.2.1 r'.2.2 := a.trans (by rw [← e2]; exact .step .refl m' rfl)
      refine ⟨r', List.mem_filter.mpr ⟨m', ?_⟩, e1, e2, ih h d b (ok.st r' m').2⟩
      rw [decide_eq_true ((mem_mutL hx).mpr ⟨(ok.st r' m').1, by rw [e2]; exact a, (Rch.step .refl m' rfl).trans c⟩), decide_eq_true ((mem_mutL hx).mpr ⟨(ok.st r' m').2, d, c⟩)]
      rfl
  exact ⟨(mem_mutL hx).mpr ⟨pps, back, h1⟩, hin hT back h1 pps⟩
theorem ev_netF {K : PySem.W.Frag} {ro : Ro} {ka kr : Cells} {te : TE} {ps : List Str} {es : List Ln} {P : W → Cells → Prop} (h : EvR K te ro ka P) (hP : ∀ w k, P w k → ∃ a o d, w = .val (.adr a) ∧ k = NetC K a o d ps es ++ kr) : EvD K te ro ka (.val (NetD K ps es)) kr :=
  EvR.frzN (k1 := kr) (EvR.rp (P2 := fun w k => ∃ a o d, w = .val (.adr a) ∧ k = kr ++ NetC K a o d ps es) h fun w k p => by
    obtain ⟨a, o, d, e1, e2⟩ := hP w k p
    exact ⟨_, ⟨a, o, d, e1, rfl⟩, by rw [e2]; exact List.perm_append_comm⟩) fun w k z => z
/-- a net built, told frozen -/
theorem ev_built {K : PySem.W.Frag} {ro : Ro} {te : TE} {E : XK} {ka k1 : Cells} {ps : List Str} {es : List Ln} (h : EvD K te ro ka (.val (PtD ps es)) k1) (ok : PtOk ps es) : EvD K (tCall (spC K (ct_law_built K)) [] E (tCons te tNil)) ro ka (.val (NetD K ps es)) k1 := by
  refine ev_netF (kr := k1) (evr_call (k1 := []) k1 (ea1 h) ⟨_, rfl, ps, es, rfl, ok, rfl, rfl⟩ (fun o k ⟨a, _, _, e, _⟩ => ⟨_, e⟩)) ?_
  rintro w k ⟨d, k3, ⟨a, o, d2, e1, e2⟩, e3, e4⟩
  cases e1
  exact ⟨a, o, d2, e3, by rw [e4, e2]⟩
/-- an object of wanted lanes, told frozen -/
theorem ev_askedB {K : PySem.W.Frag} {ro : Ro} {te tf : TE} {E : XK} {ka k1 k2 : Cells} {ps : List Str} {es : List Ln} {ws : List Str} (h1 : EvD K te ro ka (.val (NetD K ps es)) k1) {t : Bool} (h2 : EvD K tf ro k1 (.val (sqD t (stD ws))) k2) (ok : PtOk ps es) (hne : ws ≠ []) (hw : ∀ w ∈ ws, w ∈ lnN es) :
    EvD K (tMake (He.ga K "Asked") (spC K (ct_Asked___init K)) [] E (tCons te (tCons tf tNil))) ro ka (.val (AskD K ps es (goalL es ws))) k2 := by
  have hpl := ok.pl
  have hel := ok.el
  refine EvR.frzV (k1 := k2) (evr_makeF (P := fun w k => ∃ a n o d, w = .val (.adr a) ∧ k = AskC K a n o d ps es (goalL es ws) ++ k2) (wd := []) (k1 := []) k2 (ea2 h1 h2) dv_nil (fun a => ⟨_, ⟨_, _, _, rfl, a, ps, es, ws, t, rfl, rfl, rfl, lk_sq, by omega, by omega, ok.ed, rfl⟩, ?_⟩)) (fun w k ⟨a, n, o, d, e1, e2⟩ => ⟨a, AskC K a n o d ps es (goalL es ws), e1, by rw [e2]; exact List.perm_append_comm, ask_kd, frz_ask fun _ h => h⟩)
  rw [if_neg hne]
  have hf : (ws.find? fun x => !decide (x ∈ lnN es)) = none := List.find?_eq_none.mpr fun y hy => by simp [hw y hy]
  rw [hf]
  rintro o' k ⟨n, o, d, e1, e2⟩
  exact ⟨e1, a, n, o, d, rfl, by rw [e2]⟩
/-- a round takes these lanes -/
def Held (es : List Ln) (ws : List Str) : Prop := ∃ T p, Wk es p T p ∧ ∀ w ∈ ws, w ∈ T
open Classical in
noncomputable def heB (es : List Ln) (ws : List Str) : Bool := decide (Held es ws)
open Classical in
theorem heB_t {es : List Ln} {ws : List Str} : heB es ws = true ↔ Held es ws := decide_eq_true_iff
theorem held_pw {ps : List Str} {es : List Ln} (ok : PtOk ps es) {ws : List Str} (hne : ws ≠ []) : (pwF ps es ws).isSome = true ↔ Held es ws := by
  constructor
  · intro h
    obtain ⟨q, hq⟩ := Option.isSome_iff_exists.mp h
    have hin : ∀ w ∈ ws, w ∈ lnN es := fun w hw => by
      have h1 := List.mem_of_find?_eq_some hq
      have h2 := List.find?_some hq
      obtain ⟨p, _, e⟩ := prL_mem (fun x hx => hx) h1
      have := List.all_eq_true.mp h2 w hw
      rw [decide_eq_true_eq, e] at this
      obtain ⟨r, m, e2⟩ := List.mem_map.mp (show w ∈ lnN (innR es _) from this)
      exact List.mem_map.mpr ⟨r, (List.mem_filter.mp m).1, e2⟩
    rw [← pwF_mem (mem_goal hin)] at hq
    obtain ⟨_, tw⟩ := tw_of ok hne hin hq
    obtain ⟨p, hw⟩ := tw.closed
    exact ⟨_, p, wk_more (fun r hr => innR_sub hr) hw, fun w h => tw.has w ((mem_goal hin w).mpr h)⟩
  · rintro ⟨T, p, hT, hw⟩
    obtain ⟨w0, wt, rfl⟩ : ∃ x t, ws = x :: t := by
      cases ws with
      | nil => exact absurd rfl hne
      | cons x t => exact ⟨x, t, rfl⟩
    have hin : ∀ w ∈ w0 :: wt, w ∈ lnN es := fun w h => by
      obtain ⟨r, m, e, _⟩ := hT.rows w (hw w h)
      exact List.mem_map.mpr ⟨r, m, e⟩
    obtain ⟨r, m, rfl, h1, h2⟩ := hT.rows w0 (hw w0 List.mem_cons_self)
    obtain ⟨hp, hT2⟩ := tour_in ok m hT (hw r.1 List.mem_cons_self)
    have := (ip_head ok m hin).mpr ⟨rfl, h2.trans h1, fun w h => by
      obtain ⟨r', m', e, _⟩ := hT2.rows w (hw w h)
      exact List.mem_map.mpr ⟨r', m', e⟩⟩
    rw [pwF_mem (mem_goal hin)] at this
    rw [this]
    rfl
/-- lanes of rows, in order, are told so -/
theorem goal_sub {es : List Ln} (hn : (lnN es).Nodup) {f : Ln → Bool} {p : Str → Bool} : goalL es ((lnN (es.filter f)).filter p) = (lnN (es.filter f)).filter p := by
  unfold goalL
  have e : (lnN (es.filter f)).filter p = lnN ((es.filter f).filter fun r => p r.1) := by
    unfold lnN
    rw [List.filter_map]
    rfl
  rw [e, List.filter_filter]
  have key : ∀ (fs : List Ln) (g : Ln → Bool), (lnN fs).Nodup → (lnN fs).filter (fun l => decide (l ∈ lnN (fs.filter g))) = lnN (fs.filter g) := fun fs g hn => by
    have h1 : (lnN fs).filter (fun l => decide (l ∈ lnN (fs.filter g))) = lnN (fs.filter fun r => decide (r.1 ∈ lnN (fs.filter g))) := by
      unfold lnN
      rw [List.filter_map]
      rfl
    rw [h1]
    congr 1
    refine List.filter_congr fun r hr => ?_
    rw [Bool.eq_iff_iff, decide_eq_true_eq]
    constructor
    · intro h
      obtain ⟨r', m, e⟩ := List.mem_map.mp h
      obtain ⟨m1, m2⟩ := List.mem_filter.mp m
      rw [ln_uniq hn hr m1 e.symm]
      exact m2
    · exact fun h => List.mem_map.mpr ⟨r, List.mem_filter.mpr ⟨hr, h⟩, rfl⟩
  exact key es _ hn
def ct_law_is_held (K : PySem.W.Frag) : Ct := Ct2 fun a b ka out => ∃ ps es ws t, a = .val (PtD ps es) ∧ b = .val (sqD t (stD ws)) ∧ PtOk ps es ∧ ws ≠ [] ∧ ws.length ≤ 100 ∧ ka = [] ∧ out = Rt (.bl (heB es ws)) []
section
variable {P : Program} {w : World} {K : PySem.W.Frag} {mg : Str → Option Value} {base : Heap}
theorem ok_law_is_held (T : Tx K mg) (F_law_part : Fn P w K mg base 6 (He.ga K "_law_part") ["_law_parts", "_law_lane"] (ct_law_part K)) (F_law_lanes : Fn P w K mg base 4 (He.ga K "_law_lanes") ["_law_parts"] (ct_law_lanes K)) : Fn P w K mg base 8 (He.ga K "_law_is_held") ["_law_parts", "_law_lanes_here"] (ct_law_is_held K) := by
  obtain ⟨fd, F⟩ := T.d_law_is_held
  refine fn_ok F sc_law_is_held (fun _ _ _ _ _ _ us hl => match us, hl with | [_, _], _ => rfl) ct2_len (fun cdv A outer s H E hr => ⟨_, (pss_cons (ps_if (pt_cmpR (op_neP (by have := (hr).units; exact this)) (pe_lc (te := (tVar 2)) (tt := (tTest (tOp (rNiU K) (tVar 2) (tCall (spC K (ct_law_lanes K)) [] (fun _ _ _ => False) (tCons (tVar 0) tNil))))) (own := [("_law_lane", 2)]) rfl sc_law_is_held.nd (pi_seq (pv 1)) (blk_ok ["_law_parts", "_law_lanes_here", "_law_lane", "_law_part_here"] (defScope s_law_is_held) rfl rfl (by decide +kernel)) (fun _ _ _ _ _ => (pg_name (i := 2) sc_law_is_held.nd rfl (by first | exact Or.inl rfl | exact Or.inr rfl))) (fun _ _ _ _ _ => (pts_one (pt_cmpR op_niU (pv 2) (pe_call (F_law_lanes.up (by decide)).ok hr rfl T.g_law_lanes.1 T.g_law_lanes.2 (F_law_lanes.up (by decide)).bn .nil passes_no (pa_cons (pv 0) pa_nil)) (by with_unfolding_all rfl)))) (fun _ _ _ _ _ => (pv 2))) (pe_lst pa_nil) (nomark _))
      (pss_one (ps_ret pe_bl))
      pss_nil)
      (pss_cons (ps_set (i := 3) sc_law_is_held.nd rfl (by first | exact Or.inl rfl | exact Or.inr rfl) (pe_call (F_law_part.up (by decide)).ok hr rfl T.g_law_part.1 T.g_law_part.2 (F_law_part.up (by decide)).bn .nil (pass_own rfl rfl rfl rfl) (pa_cons (pv 0) (pa_cons (pe_ix ix_seq (pv 1) pe_int fun _ _ => rfl) pa_nil))))
      (pss_one (ps_ret (pe_and (pe_cmpR op_notN1 (pv 3) pe_non (nomark _)) (pe_one (pe_cmpR (op_eqP (by have := (hr).units; exact this)) (pe_lc (te := (tVar 2)) (tt := (tTest (tOp (rNiU K) (tVar 2) (tOp (rIx K) (tVar 3) (tC (.int 1)))))) (own := [("_law_lane", 2)]) rfl sc_law_is_held.nd (pi_seq (pv 1)) (blk_ok ["_law_parts", "_law_lanes_here", "_law_lane", "_law_part_here"] (defScope s_law_is_held) rfl rfl (by decide +kernel)) (fun _ _ _ _ _ => (pg_name (i := 2) sc_law_is_held.nd rfl (by first | exact Or.inl rfl | exact Or.inr rfl))) (fun _ _ _ _ _ => (pts_one (pt_cmpR op_niU (pv 2) (pe_ix ix_seq (pv 3) pe_int fun _ _ => rfl) (by with_unfolding_all rfl)))) (fun _ _ _ _ _ => (pv 2))) (pe_lst pa_nil) (nomark _)))))))), fun ws ka out B F0 Q hC hR hX => ?_⟩)
  obtain ⟨a, b, rfl, ps, es, ws, t, rfl, rfl, ok, hne, hwl, rfl, rfl⟩ := hC
  have hel := ok.el
  have hpl := ok.pl
  have nilT : ∀ (fl : List Str), eqD (.lst (stD fl)) (.lst []) = decide (fl = []) := fun fl => by cases fl <;> rfl
  refine q_when (b := !decide ((ws.filter fun l => !decide (l ∈ lnN es)) = [])) ((et_test (ev_ne (d := .lst (stD (ws.filter fun l => !decide (l ∈ lnN es)))) (e := .lst []) (evn_filt (xs := ws) (g := fun s => W.val (.str s)) (f := fun s => D.str s) (p := fun l => !decide (l ∈ lnN es)) (ei_strsB (ev_var rfl)) (by decide) (by omega) ⟨trivial, fun _ => trivial⟩ (fun l hl => et_test (ev_niL (ev_var rfl) (ev_callP (d := .lst (stD (lnN es))) (ea1 (ev_var rfl)) ⟨_, rfl, ps, es, rfl, by omega, rfl, rfl⟩) .vl)) (fun l hl _ => ev_var rfl)).lst (evn_lst (ds := []) ea_nil (by decide)).lst .v .v (pl_stD _ 60) rfl)).to (by rw [nilT])) (fun hb => ?_) (fun hb => ?_)
  · refine g_ret hR ev_bl ⟨?_, rfl⟩
    rw [Bool.not_eq_true', decide_eq_false_iff_not] at hb
    rw [show heB es ws = false from Bool.eq_false_iff.mpr fun z => hb ?_]
    obtain ⟨T, p, hT, hw⟩ := heB_t.mp z
    rw [List.filter_eq_nil_iff]
    intro l hl
    obtain ⟨r, m, e, _⟩ := hT.rows l (hw l hl)
    have : l ∈ lnN es := List.mem_map.mpr ⟨r, m, e⟩
    simp [this]
  rw [Bool.not_eq_false', decide_eq_true_eq, List.filter_eq_nil_iff] at hb
  have hin : ∀ w ∈ ws, w ∈ lnN es := fun w h => by simpa using hb w h
  obtain ⟨w0, wt, rfl⟩ : ∃ x y, ws = x :: y := by
    cases ws with
    | nil => exact absurd rfl hne
    | cons x y => exact ⟨x, y, rfl⟩
  obtain ⟨r, m, rfl⟩ := List.mem_map.mp (hin w0 List.mem_cons_self)
  have at0' : atI (stD (r.1 :: wt)) 0 = some (.str r.1) := at0
  refine q_asg (w := .val (lpE (lpF ps es r.2.1 r.2.2))) (ev_callP (ea2 (ev_var rfl) (ev_ixV (ev_var rfl) ev_int lk_sq at0')) ⟨_, _, rfl, ps, es, r, rfl, rfl, m, ok.st, ok.ed, by omega, by omega, rfl, rfl⟩) ?_
  have hh := held_pw ok (ws := r.1 :: wt) hne
  rw [← pwF_mem (mem_goal hin), ← heB_t] at hh
  have x0 := (ok.st r m).1
  by_cases hr : Rch es r.2.2 r.2.1
  · have e1 : lpF ps es r.2.1 r.2.2 = some (mutL ps es r.2.1, innL es (mutL ps es r.2.1)) := if_pos (mem_rchL.mpr ⟨x0, hr⟩)
    rw [e1]
    have il := innL_len es (mutL ps es r.2.1)
    refine g_ret hR ((ev_andV (a := true) (b := decide (((r.1 :: wt).filter fun l => !decide (l ∈ innL es (mutL ps es r.2.1))) = [])) ((ev_notN (d := lpE (some (mutL ps es r.2.1, innL es (mutL ps es r.2.1)))) (ev_var rfl) (.inl rfl)).to rfl) fun _ => (ev_eq (d := .lst (stD ((r.1 :: wt).filter fun l => !decide (l ∈ innL es (mutL ps es r.2.1))))) (e := .lst []) (evn_filt (xs := r.1 :: wt) (g := fun s => W.val (.str s)) (f := fun s => D.str s) (p := fun l => !decide (l ∈ innL es (mutL ps es r.2.1))) (ei_strsB (ev_var rfl)) (by decide) (by omega) ⟨trivial, fun _ => trivial⟩ (fun l hl => et_test (ev_niL (ev_var rfl) (ev_ixV (d := .lst (stD (innL es (mutL ps es r.2.1)))) (ev_var rfl) ev_int .vl (atI_nat (j := 1) rfl)) .vl)) (fun l hl _ => ev_var rfl)).lst (evn_lst (ds := []) ea_nil (by decide)).lst .v .v (pl_stD _ 60) rfl).to (by rw [nilT])).to (w' := .val (.bl (heB es (r.1 :: wt)))) ?_) ⟨rfl, rfl⟩
    congr 2
    rw [Bool.true_and, Bool.eq_iff_iff, ← hh, decide_eq_true_eq, List.filter_eq_nil_iff]
    constructor
    · intro h
      rw [(ip_head ok m hin).mpr ⟨rfl, hr, fun w hw => by simpa using h w hw⟩]
      rfl
    · intro h w hw
      obtain ⟨q, hq⟩ := Option.isSome_iff_exists.mp h
      obtain ⟨_, _, h3⟩ := (ip_head ok m hin).mp hq
      simp [h3 w hw]
  · have e1 : lpF ps es r.2.1 r.2.2 = none := if_neg fun z => hr (mem_rchL.mp z).2
    rw [e1]
    refine g_ret hR ((ev_andV (a := false) (b := false) ((ev_notN (d := lpE none) (ev_var rfl) (.inl rfl)).to rfl) fun z => by cases z).to (w' := .val (.bl (heB es (r.1 :: wt)))) ?_) ⟨rfl, rfl⟩
    rw [show heB es (r.1 :: wt) = false from Bool.eq_false_iff.mpr fun z => ?_]
    · rfl
    obtain ⟨q, hq⟩ := Option.isSome_iff_exists.mp (hh.mpr z)
    exact hr ((ip_head ok m hin).mp hq).2.1
end
theorem wk_cut {es : List Ln} {g q : Str} : ∀ {ls : List Str} {p : Str}, Wk es p ls q → g ∈ ls → ∃ l1 l2, ∃ r ∈ es, ls = l1 ++ g :: l2 ∧ r.1 = g ∧ Wk es p l1 r.2.1 ∧ Wk es r.2.2 l2 q
  | [], _, _, h => nomatch h
  | x :: ls, p, ⟨r, m, e1, e2, h⟩, hg => by
    by_cases e : g = x
    · subst e
      exact ⟨[], ls, r, m, rfl, e1, e2.symm, h⟩
    · obtain ⟨l1, l2, r', m', e3, e4, h1, h2⟩ := wk_cut h ((List.mem_cons.mp hg).resolve_left e)
      exact ⟨x :: l1, l2, r', m', by rw [e3]; rfl, e4, ⟨r, m, e1, e2, h1⟩, h2⟩
/-- the part of lanes that one closed walk takes, or None -/
noncomputable def hpD (ps : List Str) (es : List Ln) (ws : List Str) : D := if heB es ws = true then lpE (ws.head?.bind fun w => (rowOf es w).bind fun r => lpF ps es r.2.1 r.2.2) else .non
theorem hp_row {ps : List Str} {es : List Ln} (ok : PtOk ps es) {w0 : Str} {wt : List Str} (hb : heB es (w0 :: wt) = true) : ∃ r ∈ es, r.1 = w0 ∧ lpF ps es r.2.1 r.2.2 = some (mutL ps es r.2.1, innL es (mutL ps es r.2.1)) ∧ hpD ps es (w0 :: wt) = lpE (some (mutL ps es r.2.1, innL es (mutL ps es r.2.1))) := by
  obtain ⟨T, p, hT, hw⟩ := heB_t.mp hb
  obtain ⟨l1, l2, r, mr, eT, e0, h1, h2⟩ := wk_cut hT (hw w0 List.mem_cons_self)
  have hc : Rch es r.2.2 r.2.1 := Wk.rch (Wk.rch .refl h2) h1
  have hlp : lpF ps es r.2.1 r.2.2 = some (mutL ps es r.2.1, innL es (mutL ps es r.2.1)) := if_pos (mem_rchL.mpr ⟨(ok.st r mr).1, hc⟩)
  refine ⟨r, mr, e0, hlp, ?_⟩
  unfold hpD
  rw [if_pos hb]
  show lpE ((rowOf es w0).bind fun r => lpF ps es r.2.1 r.2.2) = _
  rw [← e0, row_eq ok.ed mr]
  show lpE (lpF ps es r.2.1 r.2.2) = _
  rw [hlp]
theorem hpD_non {ps : List Str} {es : List Ln} (ok : PtOk ps es) {ws : List Str} (hne : ws ≠ []) : isNonD (hpD ps es ws) = !heB es ws := by
  cases ws with
  | nil => exact absurd rfl hne
  | cons w0 wt =>
    cases hb : heB es (w0 :: wt) with
    | true =>
      obtain ⟨r, _, _, _, e⟩ := hp_row ok hb
      rw [e]
      rfl
    | false =>
      unfold hpD
      rw [if_neg (by rw [hb]; decide)]
      rfl
def ct_law_held_part (K : PySem.W.Frag) : Ct := Ct2 fun a b ka out => ∃ ps es ws, a = .val (PtD ps es) ∧ b = .val (.lst (stD ws)) ∧ PtOk ps es ∧ ws ≠ [] ∧ ws.length ≤ 100 ∧ ka = [] ∧ out = Rt (hpD ps es ws) []
section
variable {P : Program} {w : World} {K : PySem.W.Frag} {mg : Str → Option Value} {base : Heap}
theorem ok_law_held_part (T : Tx K mg) (F_law_part : Fn P w K mg base 6 (He.ga K "_law_part") ["_law_parts", "_law_lane"] (ct_law_part K)) (F_law_is_held : Fn P w K mg base 8 (He.ga K "_law_is_held") ["_law_parts", "_law_lanes_here"] (ct_law_is_held K)) : Fn P w K mg base 10 (He.ga K "_law_held_part") ["_law_parts", "_law_wanted"] (ct_law_held_part K) := by
  obtain ⟨fd, F⟩ := T.d_law_held_part
  refine fn_ok F sc_law_held_part (fun _ _ _ _ _ _ us hl => match us, hl with | [_, _], _ => rfl) ct2_len (fun cdv A outer s H E hr => ⟨_, (pss_cons (ps_if (PW.pt (pw_or (pt_cmpR (op_eqP (by have := (hr).units; exact this)) (pv 1) (pe_lst pa_nil) (nomark _)) (pw_or1 (pt_not (pt_val (pe_call (F_law_is_held.up (by decide)).ok hr rfl T.g_law_is_held.1 T.g_law_is_held.2 (F_law_is_held.up (by decide)).bn .nil (pass_own rfl rfl rfl rfl) (pa_cons (pv 0) (pa_cons (pv 1) pa_nil))))))))
      (pss_one (ps_ret pe_non))
      pss_nil)
      (pss_one (ps_ret (pe_call (F_law_part.up (by decide)).ok hr rfl T.g_law_part.1 T.g_law_part.2 (F_law_part.up (by decide)).bn .nil (pass_own rfl rfl rfl rfl) (pa_cons (pv 0) (pa_cons (pe_ix ix_seq (pv 1) pe_int fun _ _ => rfl) pa_nil)))))), fun ws ka out B F0 Q hC hR hX => ?_⟩)
  obtain ⟨a, b, rfl, ps, es, ws, rfl, rfl, ok, hne, hwl, rfl, rfl⟩ := hC
  have hel := ok.el
  have hpl := ok.pl
  obtain ⟨w0, wt, rfl⟩ : ∃ x t, ws = x :: t := by
    cases ws with
    | nil => exact absurd rfl hne
    | cons x t => exact ⟨x, t, rfl⟩
  have held : ∀ {ro : Ro}, ro[0]? = some (some (.val (PtD ps es))) → ro[1]? = some (some (.val (.lst (stD (w0 :: wt))))) → EvD K (tCall (spC K (ct_law_is_held K)) [] E (tCons (tVar 0) (tCons (tVar 1) tNil))) ro [] (.val (.bl (heB es (w0 :: wt)))) [] := fun h0 h1 => ev_callP (ea2 (ev_var h0) (ev_var h1)) ⟨_, _, rfl, ps, es, w0 :: wt, false, rfl, rfl, ok, hne, hwl, rfl, rfl⟩
  refine q_when (b := !heB es (w0 :: wt)) (et_or0 ((et_test (ev_eq (d := .lst (stD (w0 :: wt))) (e := .lst []) (ev_var rfl) (evn_lst (ds := []) ea_nil (by decide)).lst .v .v (pl_stD _ 60) rfl)).to (by rfl)) (et_not (et_B (held rfl rfl)))) (fun hb => g_ret hR ev_non ⟨by unfold hpD; rw [if_neg (by rw [Bool.not_eq_true'] at hb; rw [hb]; decide)], rfl⟩) (fun hb => ?_)
  rw [Bool.not_eq_false'] at hb
  obtain ⟨r, mr, e0, hlp, e⟩ := hp_row ok hb
  exact g_ret hR (ev_callP (d := lpE (some (mutL ps es r.2.1, innL es (mutL ps es r.2.1)))) (ea2 (ev_var rfl) (ev_ixV (d := .str w0) (ev_var rfl) ev_int .vl (atI_nat (j := 0) rfl))) ⟨_, _, rfl, ps, es, r, rfl, by rw [e0], mr, ok.st, ok.ed, by omega, by omega, rfl, by rw [hlp]⟩) ⟨by rw [e], rfl⟩
end
/-- do the lanes ls make a closed walk with all of ws -/
def rndB (es : List Ln) (ls ws : List Str) : Bool := (!decide (ls = []) && ls.all fun x => decide (x ∈ lnN es)) && (((List.range ls.length).all fun i => enO es (ls.getD ((i + (ls.length - 1)) % ls.length) "") == stO es (ls.getD i "")) && ws.all fun x => decide (x ∈ ls))
theorem filt_dec {ws ls : List Str} : decide ((ws.filter fun l => !decide (l ∈ ls)) = []) = ws.all fun x => decide (x ∈ ls) := by
  rw [Bool.eq_iff_iff, decide_eq_true_eq, List.filter_eq_nil_iff, List.all_eq_true]
  constructor
  · intro h x hx
    have := h x hx
    simpa using this
  · intro h x hx
    have := h x hx
    simpa using this
def ct_law_is_round (K : PySem.W.Frag) : Ct := Ct3 fun a b c ka out => ∃ ps es ls ws t1 t2, a = .val (PtD ps es) ∧ b = .val (sqD t1 (stD ls)) ∧ c = .val (sqD t2 (stD ws)) ∧ (lnN es).Nodup ∧ es.length ≤ 40000 ∧ ls.length ≤ 100000 ∧ ws.length ≤ 1000 ∧ ka = [] ∧ out = Rt (.bl (rndB es ls ws)) []
section
variable {P : Program} {w : World} {K : PySem.W.Frag} {mg : Str → Option Value} {base : Heap}
theorem ok_law_is_round (T : Tx K mg) (F_law_ends : Fn P w K mg base 4 (He.ga K "_law_ends") ["_law_parts"] (ct_law_ends K)) : Fn P w K mg base 6 (He.ga K "_law_is_round") ["_law_parts", "_law_lanes_here", "_law_wanted"] (ct_law_is_round K) := by
  obtain ⟨fd, F⟩ := T.d_law_is_round
  refine fn_ok F sc_law_is_round (fun _ _ _ _ _ _ us hl => match us, hl with | [_, _, _], _ => rfl) ct3_len (fun cdv A outer s H E hr => ⟨_, (pss_cons (ps_set (i := 3) sc_law_is_round.nd rfl (by first | exact Or.inl rfl | exact Or.inr rfl) (pe_call (F_law_ends.up (by decide)).ok hr rfl T.g_law_ends.1 T.g_law_ends.2 (F_law_ends.up (by decide)).bn .nil (pass_own rfl rfl rfl rfl) (pa_cons (pv 0) pa_nil)))
      (pss_cons (ps_if (PW.pt (pw_or (pt_cmpR (op_eqP (by have := (hr).units; exact this)) (pe_callB call_lenU rfl T.n_len (by decide +kernel) (pa_cons (pv 1) pa_nil)) pe_int (nomark _)) (pw_or1 (pt_cmpR (op_neP (by have := (hr).units; exact this)) (pe_lc (te := (tVar 4)) (tt := (tB (tDNotIn (tVar 4) (tVar 3)))) (own := [("_law_lane", 4)]) rfl sc_law_is_round.nd (pi_seq (pv 1)) (blk_ok ["_law_parts", "_law_lanes_here", "_law_wanted", "_law_ends_here", "_law_lane", "_law_k"] (defScope s_law_is_round) rfl rfl (by decide +kernel)) (fun _ _ _ _ _ => (pg_name (i := 4) sc_law_is_round.nd rfl (by first | exact Or.inl rfl | exact Or.inr rfl))) (fun _ _ _ _ _ => (pts_one (pt_cmp (pc_dnotin (hu1 hr) (pv 4) (pv 3)) (by with_unfolding_all rfl)))) (fun _ _ _ _ _ => (pv 4))) (pe_lst pa_nil) (nomark _)))))
      (pss_one (ps_ret pe_bl))
      pss_nil)
      (pss_cons (ps_for (passes_of rfl) rfl (pi_enumU rfl T.n_enumerate (pa_cons (pv 1) pa_nil)) (pg_tup rfl (pgs_cons (pg_name (i := 5) sc_law_is_round.nd rfl (by first | exact Or.inl rfl | exact Or.inr rfl)) (pgs_cons (pg_name (i := 4) sc_law_is_round.nd rfl (by first | exact Or.inl rfl | exact Or.inr rfl)) pgs_nil))) (pss_one (ps_if (pt_cmpR (op_neP (by have := (hr).units; exact this)) (pe_ix ix_seq (pe_dget (hu1 hr) (pv 3) (pe_ix ix_seq (pv 1) (pe_op op_sub (pv 5) pe_int) fun _ _ => rfl) fun _ _ => rfl) pe_int fun _ _ => rfl) (pe_ix ix_seq (pe_dget (hu1 hr) (pv 3) (pv 4) fun _ _ => rfl) pe_int fun _ _ => rfl) (nomark _))
      (pss_one (ps_ret pe_bl))
      pss_nil)))
      (pss_one (ps_ret (pe_cmpR (op_eqP (by have := (hr).units; exact this)) (pe_lc (te := (tVar 4)) (tt := (tTest (tOp (rNiU K) (tVar 4) (tVar 1)))) (own := [("_law_lane", 4)]) rfl sc_law_is_round.nd (pi_seq (pv 2)) (blk_ok ["_law_parts", "_law_lanes_here", "_law_wanted", "_law_ends_here", "_law_lane", "_law_k"] (defScope s_law_is_round) rfl rfl (by decide +kernel)) (fun _ _ _ _ _ => (pg_name (i := 4) sc_law_is_round.nd rfl (by first | exact Or.inl rfl | exact Or.inr rfl))) (fun _ _ _ _ _ => (pts_one (pt_cmpR op_niU (pv 4) (pv 1) (by with_unfolding_all rfl)))) (fun _ _ _ _ _ => (pv 4))) (pe_lst pa_nil) (nomark _))))))), fun ws ka out B F0 Q hC hR hX => ?_⟩)
  obtain ⟨a, b, c, rfl, ps, es, ls, ws, t1, t2, rfl, rfl, rfl, hn, hel, hll, hwl, rfl, rfl⟩ := hC
  refine q_asg (ev_callP (ea1 (ev_var rfl)) ⟨_, rfl, ps, es, rfl, hn, by omega, rfl, rfl⟩) ?_
  have nilT : ∀ (fl : List Str), eqD (.lst (stD fl)) (.lst []) = decide (fl = []) := fun fl => by cases fl <;> rfl
  by_cases h0 : ls = []
  · subst h0
    exact q_when (et_or1 ((et_test (ev_eqI (ev_len (ev_var rfl) lk_sq) ev_int)).to (b := true) rfl)) (fun _ => g_ret hR ev_bl ⟨rfl, rfl⟩) (fun z => by cases z)
  have hp : 0 < ls.length := List.length_pos_iff.mpr h0
  have hc : (((stD ls).length : Nat) == (0 : Int)) = false := beq_eq_false_iff_ne.mpr (by rw [stD_len]; omega)
  refine q_when (et_or0 ((et_test (ev_eqI (ev_len (ev_var rfl) lk_sq) ev_int)).to (b := false) (by exact_mod_cast hc)) (et_test (ev_ne (d := .lst (stD (ls.filter fun l => !decide (l ∈ lnN es)))) (e := .lst []) (evn_filt (xs := ls) (g := fun s => W.val (.str s)) (f := fun s => D.str s) (p := fun l => !decide (l ∈ lnN es)) (ei_strsB (ev_var rfl)) (by decide) (by omega) ⟨trivial, fun _ => trivial⟩ (fun l hl => et_B ((ev_dni (ev_var rfl) (ev_var rfl) .v).to (by rw [enD_in]))) (fun l hl _ => ev_var rfl)).lst (evn_lst (ds := []) ea_nil (by decide)).lst .v .v (pl_stD _ 60) rfl))) (fun hb => ?_) (fun hb => ?_)
  · rw [nilT, filt_dec, Bool.not_eq_true'] at hb
    refine g_ret hR ev_bl ⟨?_, rfl⟩
    unfold rndB
    rw [hb, Bool.and_false, Bool.false_and]
  rw [nilT, filt_dec, Bool.not_eq_false'] at hb
  have hall : ∀ x ∈ ls, x ∈ lnN es := fun x hx => of_decide_eq_true (List.all_eq_true.mp hb x hx)
  have hhead : (!decide (ls = []) && ls.all fun x => decide (x ∈ lnN es)) = true := by rw [hb, decide_eq_false h0]; rfl
  refine q_forT (ei_enumU (ds := stD ls) (ev_var rfl) lk_sq) (fun i ro ka => ∃ (v4 v5 : Option W), ro = [some (.val (PtD ps es)), some (.val (sqD t1 (stD ls))), some (.val (sqD t2 (stD ws))), some (.val (.dic (enD es))), v4, v5] ∧ ka = [] ∧ ∀ j, j < i → (enO es (ls.getD ((j + (ls.length - 1)) % ls.length) "") == stO es (ls.getD j "")) = true) ⟨_, _, rfl, rfl, fun j z => absurd z (Nat.not_lt_zero _)⟩ (fun i ro ka _ => by cases t1 <;> trivial) (fun i w ro2 ka2 ta' hw ⟨v4, v5, e1, e2, hs⟩ => ?_) (fun ro2 ka2 ta' ⟨v4, v5, e1, e2, hs⟩ _ => ?_)
  · subst e1 e2
    rw [List.getElem?_map] at hw
    obtain ⟨i', hi', rfl⟩ := Option.map_eq_some_iff.mp hw
    obtain ⟨hi1, hi2⟩ := List.getElem?_eq_some_iff.mp hi'
    rw [List.getElem_range] at hi2
    subst hi2
    rw [List.length_range, stD_len] at hi1
    have hx := List.getElem?_eq_getElem hi1
    have hg : (stD ls).getD i .non = .str ls[i] := by rw [List.getD_eq_getElem?_getD, stD_get hx]; rfl
    have hgs : ls.getD i "" = ls[i] := by rw [List.getD_eq_getElem?_getD, hx]; rfl
    rw [hg]
    have hm1 : (i + (ls.length - 1)) % ls.length < ls.length := Nat.mod_lt _ hp
    have hat : atI (stD ls) ((i : Int) - 1) = some (.str (ls.getD ((i + (ls.length - 1)) % ls.length) "")) := by
      have hgm : (stD ls)[(i + (ls.length - 1)) % ls.length]? = some (.str (ls.getD ((i + (ls.length - 1)) % ls.length) "")) := by
        rw [stD_get (List.getElem?_eq_getElem hm1), List.getD_eq_getElem?_getD, List.getElem?_eq_getElem hm1]
        rfl
      unfold atI ixN
      by_cases hz : i = 0
      · subst hz
        rw [if_neg (by omega), if_pos (by rw [stD_len]; omega)]
        show (stD ls)[(((0 : Nat) : Int) - 1 + ((stD ls).length : Nat)).toNat]? = _
        rw [← hgm, stD_len]
        congr 1
        rw [Nat.zero_add, Nat.mod_eq_of_lt (by omega)]
        omega
      · rw [if_pos (by omega), if_pos (by rw [stD_len]; omega)]
        show (stD ls)[((i : Int) - 1).toNat]? = _
        rw [← hgm]
        congr 1
        have : i + (ls.length - 1) = (i - 1) + ls.length := by omega
        rw [this, Nat.add_mod_right, Nat.mod_eq_of_lt (by omega)]
        omega
    obtain ⟨r, m, e1⟩ := List.mem_map.mp (hall ls[i] (List.getElem_mem _))
    obtain ⟨r', m', e2⟩ := List.mem_map.mp (hall (ls.getD ((i + (ls.length - 1)) % ls.length) "") (by rw [List.getD_eq_getElem?_getD, List.getElem?_eq_getElem hm1]; exact List.getElem_mem _))
    rw [← e2] at hat
    refine ⟨_, at_t2, g_if (et_test (ev_neS (ev_ixV (ev_dgetV (d := lnD r') (ev_var rfl) (ev_ixV (ev_var rfl) (ev_op (ev_var rfl) ev_int rv_sub) lk_sq hat) .v (enD_getm hn m')) ev_int .vt (atI_nat (j := 1) rfl)) (ev_ixV (ev_dgetV (d := lnD r) (ev_var rfl) ((ev_var rfl).to (congrArg (fun z => W.val (.str z)) e1.symm)) .v (enD_getm hn m)) ev_int .vt (atI_nat (j := 0) rfl)))) (fun hb2 => ?_) (fun hb2 => g_next (g_jp ⟨_, _, rfl, rfl, fun j hj => ?_⟩))⟩
    · rw [Bool.not_eq_true'] at hb2
      refine g_ret hR ev_bl ⟨?_, rfl⟩
      have : ((List.range ls.length).all fun i => enO es (ls.getD ((i + (ls.length - 1)) % ls.length) "") == stO es (ls.getD i "")) = false := by
        rw [← Bool.not_eq_true, List.all_eq_true]
        intro z
        have := z i (List.mem_range.mpr hi1)
        rw [hgs, ← e1, ← e2, enO_eq hn m', stO_eq hn m, hb2] at this
        cases this
      unfold rndB
      rw [this, Bool.false_and, Bool.and_false]
    · by_cases q : j = i
      · subst q
        rw [Bool.not_eq_false'] at hb2
        rw [hgs, ← e1, ← e2, enO_eq hn m', stO_eq hn m]
        exact hb2
      · exact hs j (by omega)
  · subst e1 e2
    rw [List.length_map, List.length_range, stD_len] at hs
    have hcyc : ((List.range ls.length).all fun i => enO es (ls.getD ((i + (ls.length - 1)) % ls.length) "") == stO es (ls.getD i "")) = true := List.all_eq_true.mpr fun j hj => hs j (List.mem_range.mp hj)
    refine g_ret hR ((ev_eq (d := .lst (stD (ws.filter fun l => !decide (l ∈ ls)))) (e := .lst []) (evn_filt (xs := ws) (g := fun s => W.val (.str s)) (f := fun s => D.str s) (p := fun l => !decide (l ∈ ls)) (ei_strsB (ev_var rfl)) (by decide) (by omega) ⟨trivial, fun _ => trivial⟩ (fun l hl => et_test (ev_niL (ev_var rfl) (ev_var rfl) lk_sq)) (fun l hl _ => ev_var rfl)).lst (evn_lst (ds := []) ea_nil (by decide)).lst .v .v (pl_stD _ 60) rfl).to ?_) ⟨rfl, rfl⟩
    rw [nilT, filt_dec]
    unfold rndB
    rw [hhead, hcyc, Bool.true_and, Bool.true_and]
end
theorem rwD_len (es : List Ln) : (rwD es).length = es.length := List.length_map _
theorem rwD_app (es fs : List Ln) : rwD (es ++ fs) = rwD es ++ rwD fs := List.map_append
/-- names as drawn for lanes -/
structure ToOk (ts : List Str) (m : Nat) : Prop where
  nm : ∀ s ∈ ts, isNm s = true
  nd : ts.Nodup
  le : ts.length ≤ m
  ge : min m 8 ≤ ts.length
/-- rows so far: their names stand in order among the first i told ones -/
structure FoOk (ps ts : List Str) (fs : List Ln) (i : Nat) : Prop where
  sub : (lnN fs).Sublist (ts.take i)
  st : ∀ r ∈ fs, r.2.1 ∈ ps ∧ r.2.2 ∈ ps
theorem FoOk.skip {ps ts : List Str} {fs : List Ln} {i : Nat} (h : FoOk ps ts fs i) : FoOk ps ts fs (i + 1) := ⟨h.sub.trans (List.take_sublist_take_left (Nat.le_succ i)), h.st⟩
theorem FoOk.add {ps ts : List Str} {fs : List Ln} {i : Nat} (h : FoOk ps ts fs i) {x p q : Str} (hx : ts[i]? = some x) (hp : p ∈ ps) (hq : q ∈ ps) : FoOk ps ts (fs ++ [(x, p, q)]) (i + 1) := by
  refine ⟨?_, fun r hr => ?_⟩
  · rw [take_succ_some hx]
    have e : lnN (fs ++ [(x, p, q)]) = lnN fs ++ [x] := List.map_append
    rw [e]
    exact h.sub.append (List.Sublist.refl _)
  · rcases List.mem_append.mp hr with hr | hr
    · exact h.st r hr
    · rw [List.mem_singleton.mp hr]; exact ⟨hp, hq⟩
theorem FoOk.len {ps ts : List Str} {fs : List Ln} {i : Nat} (h : FoOk ps ts fs i) : fs.length ≤ ts.length := by
  have := h.sub.length_le
  rw [lnN_len, List.length_take] at this
  omega
def ct_law_loose_net (K : PySem.W.Frag) : Ct := Ct3 fun s b c ka out => ∃ a p n ps ls, s = .val (.adr a) ∧ b = .val (.lst (stD ps)) ∧ c = .val (.lst (stD ls)) ∧ ka = [(a, .lst (Pl.ds p))] ∧ p.Ok n ∧ 0 ≤ n ∧ n ≤ 800000 ∧ ps ≠ [] ∧ ps.length ≤ 30 ∧ ps.Nodup ∧ (∀ p ∈ ps, isNm p = true) ∧ ls.length ≤ 50 ∧ ls.Nodup ∧ (∀ l ∈ ls, isNm l = true) ∧
  out = fun o k => ∃ es p', o = .ret (PtD ps es) ∧ k = [(a, .lst (Pl.ds p'))] ∧ p'.Ok (n + 100) ∧ PtOk ps es ∧ lnN es = ls
section
variable {P : Program} {w : World} {K : PySem.W.Frag} {mg : Str → Option Value} {base : Heap}
theorem ok_law_loose_net (T : Tx K mg) (F_law_take : Fn P w K mg base 4 (He.ga K "_law_take") ["_law_pool_here", "_law_many_here"] (ct_law_take K)) : Fn P w K mg base 6 (He.ga K "_law_loose_net") ["_law_pool_here", "_law_posts", "_law_lanes_here"] (ct_law_loose_net K) := by
  obtain ⟨fd, F⟩ := T.d_law_loose_net
  refine fn_ok F sc_law_loose_net (fun _ _ _ _ _ _ us hl => match us, hl with | [_, _, _], _ => rfl) ct3_len (fun cdv A outer s H E hr => ⟨_, (pss_cons (ps_set (i := 3) sc_law_loose_net.nd rfl (by first | exact Or.inl rfl | exact Or.inr rfl) (pe_lst pa_nil))
      (pss_cons (ps_for (passes_of rfl) rfl (pi_seq (pv 2)) (pg_name (i := 4) sc_law_loose_net.nd rfl (by first | exact Or.inl rfl | exact Or.inr rfl)) (pss_cons (ps_set (i := 5) sc_law_loose_net.nd rfl (by first | exact Or.inl rfl | exact Or.inr rfl) (pe_ix ix_seq (pv 1) (pe_call (F_law_take.up (by decide)).ok hr rfl T.g_law_take.1 T.g_law_take.2 (F_law_take.up (by decide)).bn .nil (pass_own rfl rfl rfl rfl) (pa_cons (pv 0) (pa_cons (pe_callB call_lenU rfl T.n_len (by decide +kernel) (pa_cons (pv 1) pa_nil)) pa_nil))) fun _ _ => rfl))
      (pss_one (ps_expr (pe_bm PySem.F.plainAttrs_list PySem.F.slot_list_append PySem.F.type_list_append mt_append (pv 3) (pa_cons (pe_tup (pa_cons (pv 4) (pa_cons (pv 5) (pa_cons (pe_ix ix_seq (pv 1) (pe_call (F_law_take.up (by decide)).ok hr rfl T.g_law_take.1 T.g_law_take.2 (F_law_take.up (by decide)).bn .nil (pass_own rfl rfl rfl rfl) (pa_cons (pv 0) (pa_cons (pe_callB call_lenU rfl T.n_len (by decide +kernel) (pa_cons (pv 1) pa_nil)) pa_nil))) fun _ _ => rfl) pa_nil)))) pa_nil))))))
      (pss_one (ps_ret (pe_lst (pa_cons (pv 1) (pa_cons (pv 3) pa_nil))))))), fun ws ka out B F0 Q hC hR hX => ?_⟩)
  obtain ⟨s1, b1, c1, rfl, a, p, n, ps, ls, rfl, rfl, rfl, rfl, hp, hn0, hn, hpne, hpl, hpd, hpn, hll, hld, hlm, rfl⟩ := hC
  refine q_asgN (evn_lst (ds := []) ea_nil (by decide)) (fun f => ?_)
  refine q_forn (ei_strsL (ss := ls) (ev_var rfl) .vl) (fun i ro ka => ∃ es p' v4 v5, ro = [some (.val (.adr a)), some (.val (.lst (stD ps))), some (.val (.lst (stD ls))), some (.val (.adr f)), v4, v5] ∧ ka = [(a, .lst (Pl.ds p')), (f, .lst (rwD es))] ∧ p'.Ok (n + 2 * i) ∧ lnN es = ls.take i ∧ ∀ r ∈ es, r.2.1 ∈ ps ∧ r.2.2 ∈ ps) ⟨[], p, _, _, rfl, rfl, hp.up (by omega), rfl, fun r h => by cases h⟩ (fun _ _ _ _ => trivial) (fun i w ro2 ka2 ta2 hw ⟨es, p', v4, v5, e1, e2, hp', hl, hst⟩ => ?_) (fun ro2 ka2 ta2 ⟨es, p', v4, v5, e1, e2, hp', hl, hst⟩ hta => ?_)
  · subst e1 e2
    rw [List.getElem?_map] at hw
    obtain ⟨l, hl', rfl⟩ := Option.map_eq_some_iff.mp hw
    have hi := (List.getElem?_eq_some_iff.mp hl').1
    have el : es.length = i := by
      rw [← lnN_len, hl, List.length_take]
      omega
    have m1 := drawS_mem hpne p'
    have o1 := drawP_ok hp' hpne
    refine q_asg (w := .val (.str (drawS p' ps))) (ev_draw (kr := [(f, .lst (rwD es))]) (ev_var rfl) (ev_var rfl) (ev_var rfl) (hp'.up (by omega)) hpne (by omega)) ?_
    have m2 := drawS_mem hpne (drawP p' ps)
    have o2 := drawP_ok o1 hpne
    refine g_app (j0 := 1) (j := 1) (d := rwL (l, drawS p' ps, drawS (drawP p' ps) ps)) (ev_var rfl) rfl (ev_tup (ds := [.str l, .str (drawS p' ps), .str (drawS (drawP p' ps) ps)]) (ea3 (ev_var rfl) (ev_var rfl) (ev_draw (kr := [(f, .lst (rwD es))]) (ev_var rfl) (ev_var rfl) (ev_var rfl) (o1.up (by omega)) hpne (by omega))) (show 3 ≤ 100000 by decide)) rfl (by rw [rwD_len]; omega) (g_jp ⟨es ++ [(l, drawS p' ps, drawS (drawP p' ps) ps)], _, _, _, rfl, ?_, o2.up (by push_cast; omega), ?_, fun r hr => ?_⟩)
    · rw [rwD_app]
      rfl
    · rw [take_succ_some hl', ← hl]
      exact List.map_append
    · rcases List.mem_append.mp hr with hr | hr
      · exact hst r hr
      · rw [List.mem_singleton.mp hr]
        exact ⟨m1, m2⟩
  · subst e1 e2
    rw [List.length_map] at hp' hl
    rw [List.take_length] at hl
    refine Gp.frz (i := 3) (j := 1) (ds := rwD es) rfl rfl ?_
    have el : es.length = ls.length := by rw [← lnN_len, hl]
    refine g_ret hR (evn_lst (ds := [.lst (stD ps), .lst (rwD es)]) (ea2 (ev_var rfl) (ev_var rfl)) (show 2 ≤ 100000 by decide)).lst ⟨es, p', rfl, rfl, hp'.up (by omega), ⟨hpn, hpd, fun r hr => hlm _ (by rw [← hl]; exact List.mem_map.mpr ⟨r, hr, rfl⟩), by rw [hl]; exact hld, hst, by omega, by omega⟩, hl⟩
end
/-- (x, y) where y raises -/
theorem evx_tup2 {K : PySem.W.Frag} {ro : Ro} {ka k1 k2 : Cells} {te tf : TE} {tr : TA} {w : W} {E : XK} {C1 : Addr} {gs : List (Str × D)} (h1 : EvD K te ro ka w k1) (h2 : EvX K tf ro k1 E C1 gs k2) : EvX K (tTup (tCons te (tCons tf tr))) ro ka E C1 gs k2 := fun B F0 ta sg H Q e q =>
  h1 B F0 ta sg H _ e fun v H1 e1 => h2 B F0 _ sg H1 _ e1 fun dx H2 e2 => q dx H2 e2.pop
/-- what is told of how a call ends -/
def TolO (K : PySem.W.Frag) (out0 out : Oc) : Prop :=
  (∃ a b c, out0 = Xt (He.ga K "NoRound") [("side", c), ("second", b), ("first", a)] [] ∧ out = Rt (.tup [.str "NoRound", .tup [a, b], c]) []) ∨
  (∃ d, out0 = Xt (He.ga K "NoLane") [("name", d)] [] ∧ out = Rt (.tup [.str "NoLane", d]) []) ∨
  (∃ d, out0 = Rt d [] ∧ out = Rt (.tup [.str "told", d]) [])
def ct_law_told (K : PySem.W.Frag) : Ct := Ct3 fun a b c ka out => ∃ (kind : Nat) (out0 : Oc), a = .val (.int (kind : Int)) ∧ ka = [] ∧ ((kind = 0 ∧ ct_parting_round K [b, c] [] out0) ∨ (kind = 1 ∧ ct_parting_stretch K [b, c] [] out0)) ∧ TolO K out0 out
section
variable {P : Program} {w : World} {K : PySem.W.Frag} {mg : Str → Option Value} {base : Heap}
theorem ok_law_told (T : Tx K mg) (F_parting_round : Fn P w K mg base 14 (He.ga K "parting_round") ["one", "two"] (ct_parting_round K)) (F_parting_stretch : Fn P w K mg base 16 (He.ga K "parting_stretch") ["one", "two"] (ct_parting_stretch K)) : Fn P w K mg base 18 (He.ga K "_law_told") ["_law_kind", "_law_one", "_law_two"] (ct_law_told K) := by
  obtain ⟨fd, F⟩ := T.d_law_told
  refine fn_ok F sc_law_told (fun _ _ _ _ _ _ us hl => match us, hl with | [_, _, _], _ => rfl) ct3_len (fun cdv A outer s H E hr => ⟨_, (pss_one (ps_tryC (tb := fun W => (tSeq (tIfS (tTest (tOp (rEqP K false) (tVar 0) (tC (.int 0)))) (tRet (tTup (tCons (tC (.str "told")) (tCons (tCall (spC K (ct_parting_round K)) [] (XW 4 W) (tCons (tVar 1) (tCons (tVar 2) tNil))) tNil)))) tNext) (tRet (tTup (tCons (tC (.str "told")) (tCons (tCall (spC K (ct_parting_stretch K)) [] (XW 4 W) (tCons (tVar 1) (tCons (tVar 2) tNil))) tNil)))))) (l := [(.ref (He.ga K "NoLane"), (some 3), fun a cls d => (tRet (tTup (tCons (tC (.str "NoLane")) (tCons (tXf a cls d (He.ga K "NoLane") "name" (tVar 3)) tNil))))), (.ref (He.ga K "NoRound"), (some 3), fun a cls d => (tRet (tTup (tCons (tC (.str "NoRound")) (tCons (tTup (tCons (tXf a cls d (He.ga K "NoRound") "first" (tVar 3)) (tCons (tXf a cls d (He.ga K "NoRound") "second" (tVar 3)) tNil))) (tCons (tXf a cls d (He.ga K "NoRound") "side" (tVar 3)) tNil))))))]) rfl rfl (takes_of rfl rfl rfl rfl)
      (fun W pn xe tk hp => (pss_cons (ps_if (pt_cmpR (op_eqP (by have := (hr).units; exact this)) (pv 0) pe_int (nomark _))
      (pss_one (ps_ret (pe_tup (pa_cons pe_str (pa_cons (pe_call (F_parting_round.up (by decide)).ok hr rfl T.g_parting_round.1 T.g_parting_round.2 (F_parting_round.up (by decide)).bn .nil (pass_xw tk) (pa_cons (pv 1) (pa_cons (pv 2) pa_nil))) pa_nil)))))
      pss_nil)
      (pss_one (ps_ret (pe_tup (pa_cons pe_str (pa_cons (pe_call (F_parting_stretch.up (by decide)).ok hr rfl T.g_parting_stretch.1 T.g_parting_stretch.2 (F_parting_stretch.up (by decide)).bn .nil (pass_xw tk) (pa_cons (pv 1) (pa_cons (pv 2) pa_nil))) pa_nil)))))))
      (fun D base => (Deals.named (i := 3) rfl sc_law_told.nd ⟨rfl, by decide, .inl T.g_NoLane.1⟩ rfl rfl
      (fun a oe cls d pn hz hf => (pss_one (ps_ret (pe_tup (pa_cons pe_str (pa_cons (pe_xf T.xc_NoLane.xf T.xn_NoLane_name hz hf (pv 3)) pa_nil)))))) (Deals.named (i := 3) rfl sc_law_told.nd ⟨rfl, by decide, .inl T.g_NoRound.1⟩ rfl rfl
      (fun a oe cls d pn hz hf => (pss_one (ps_ret (pe_tup (pa_cons pe_str (pa_cons (pe_tup (pa_cons (pe_xf T.xc_NoRound.xf T.xn_NoRound_first hz hf (pv 3)) (pa_cons (pe_xf T.xc_NoRound.xf T.xn_NoRound_second hz hf (pv 3)) pa_nil))) (pa_cons (pe_xf T.xc_NoRound.xf T.xn_NoRound_side hz hf (pv 3)) pa_nil))))))) base))))), fun ws ka out B F0 Q hC hR hX => ?_⟩)
  obtain ⟨a, b, c, rfl, kind, out0, rfl, rfl, con, tol⟩ := hC
  rcases con with ⟨rfl, con⟩ | ⟨rfl, con⟩
  · refine q_when (b := true) ((et_test (ev_eqI (ev_var rfl) ev_int)).to (by rfl)) (fun _ => ?_) (fun z => by cases z)
    rcases tol with ⟨x, y, z, rfl, rfl⟩ | ⟨d, rfl, rfl⟩ | ⟨d, rfl, rfl⟩
    · exact g_retY (C1 := He.ga K "NoRound") (gs := [("side", z), ("second", y), ("first", x)]) (k2 := []) (evx_tup2 ev_str (evx_call (k2 := []) (kr := []) (k3 := []) (ea2 (ev_var rfl) (ev_var rfl)) con rfl)) (.next T.ex_NoRound_NoLane (.here T.ex_NoRound_NoRound)) fun a dx => g_ret hR ((ev_tup (ds := [.str "NoRound", .tup [x, y], z]) (ea3 ev_str (ev_tup (ds := [x, y]) (ea2 (ev_xf (j := 0) (ev_var rfl) rfl rfl) (ev_xf (j := 0) (ev_var rfl) rfl rfl)) (show 2 ≤ 100000 by decide)) (ev_xf (j := 0) (ev_var rfl) rfl rfl)) (show 3 ≤ 100000 by decide)).less (List.nil_sublist _)) ⟨rfl, rfl⟩
    · exact g_retY (C1 := He.ga K "NoLane") (gs := [("name", d)]) (k2 := []) (evx_tup2 ev_str (evx_call (k2 := []) (kr := []) (k3 := []) (ea2 (ev_var rfl) (ev_var rfl)) con rfl)) (.here T.ex_NoLane_NoLane) fun a dx => g_ret hR ((ev_tup (ds := [.str "NoLane", d]) (ea2 ev_str (ev_xf (j := 0) (ev_var rfl) rfl lk1)) (show 2 ≤ 100000 by decide)).less (List.nil_sublist _)) ⟨rfl, rfl⟩
    · exact g_ret hR (ev_tup (ds := [.str "told", d]) (ea2 ev_str (ev_callP (ea2 (ev_var rfl) (ev_var rfl)) con)) (show 2 ≤ 100000 by decide)) ⟨rfl, rfl⟩
  · refine q_when (b := false) ((et_test (ev_eqI (ev_var rfl) ev_int)).to (by rfl)) (fun z => by cases z) (fun _ => ?_)
    rcases tol with ⟨x, y, z, rfl, rfl⟩ | ⟨d, rfl, rfl⟩ | ⟨d, rfl, rfl⟩
    · exact g_retY (C1 := He.ga K "NoRound") (gs := [("side", z), ("second", y), ("first", x)]) (k2 := []) (evx_tup2 ev_str (evx_call (k2 := []) (kr := []) (k3 := []) (ea2 (ev_var rfl) (ev_var rfl)) con rfl)) (.next T.ex_NoRound_NoLane (.here T.ex_NoRound_NoRound)) fun a dx => g_ret hR ((ev_tup (ds := [.str "NoRound", .tup [x, y], z]) (ea3 ev_str (ev_tup (ds := [x, y]) (ea2 (ev_xf (j := 0) (ev_var rfl) rfl rfl) (ev_xf (j := 0) (ev_var rfl) rfl rfl)) (show 2 ≤ 100000 by decide)) (ev_xf (j := 0) (ev_var rfl) rfl rfl)) (show 3 ≤ 100000 by decide)).less (List.nil_sublist _)) ⟨rfl, rfl⟩
    · exact g_retY (C1 := He.ga K "NoLane") (gs := [("name", d)]) (k2 := []) (evx_tup2 ev_str (evx_call (k2 := []) (kr := []) (k3 := []) (ea2 (ev_var rfl) (ev_var rfl)) con rfl)) (.here T.ex_NoLane_NoLane) fun a dx => g_ret hR ((ev_tup (ds := [.str "NoLane", d]) (ea2 ev_str (ev_xf (j := 0) (ev_var rfl) rfl lk1)) (show 2 ≤ 100000 by decide)).less (List.nil_sublist _)) ⟨rfl, rfl⟩
    · exact g_ret hR (ev_tup (ds := [.str "told", d]) (ea2 ev_str (ev_callP (ea2 (ev_var rfl) (ev_var rfl)) con)) (show 2 ≤ 100000 by decide)) ⟨rfl, rfl⟩
end
def pairO : Option (Ln × Ln) → D
  | some x => .tup [.str x.1.1, .str x.2.1]
  | none => .non
def ct_law_pair (K : PySem.W.Frag) : Ct := Ct2 fun a b ka out => ∃ ps es gr, a = .val (PtD ps es) ∧ b = .val (.tup (stD (lnN gr))) ∧ (∀ r ∈ gr, r ∈ es) ∧ (∀ r ∈ es, r.2.1 ∈ ps ∧ r.2.2 ∈ ps) ∧ (lnN es).Nodup ∧ ps.length ≤ 900 ∧ es.length ≤ 10000 ∧ gr.length ≤ 10000 ∧ ka = [] ∧ out = Rt (pairO (noP es gr)) []
section
variable {P : Program} {w : World} {K : PySem.W.Frag} {mg : Str → Option Value} {base : Heap}
theorem ok_law_pair (T : Tx K mg) (F_law_ends : Fn P w K mg base 4 (He.ga K "_law_ends") ["_law_parts"] (ct_law_ends K)) (F_law_ways : Fn P w K mg base 4 (He.ga K "_law_ways") ["_law_parts", "_law_start"] (ct_law_ways K)) : Fn P w K mg base 6 (He.ga K "_law_pair") ["_law_parts", "_law_wanted"] (ct_law_pair K) := by
  obtain ⟨fd, F⟩ := T.d_law_pair
  refine fn_ok F sc_law_pair (fun _ _ _ _ _ _ us hl => match us, hl with | [_, _], _ => rfl) ct2_len (fun cdv A outer s H E hr => ⟨_, (pss_cons (ps_set (i := 2) sc_law_pair.nd rfl (by first | exact Or.inl rfl | exact Or.inr rfl) (pe_call (F_law_ends.up (by decide)).ok hr rfl T.g_law_ends.1 T.g_law_ends.2 (F_law_ends.up (by decide)).bn .nil (pass_own rfl rfl rfl rfl) (pa_cons (pv 0) pa_nil)))
      (pss_cons (ps_for (passes_of rfl) rfl (pi_seq (pv 1)) (pg_name (i := 3) sc_law_pair.nd rfl (by first | exact Or.inl rfl | exact Or.inr rfl)) (pss_one (ps_for (passes_of rfl) rfl (pi_seq (pv 1)) (pg_name (i := 4) sc_law_pair.nd rfl (by first | exact Or.inl rfl | exact Or.inr rfl)) (pss_one (ps_if (pt_cmp (pc_dnotin (hu1 hr) (pe_ix ix_seq (pe_dget (hu1 hr) (pv 2) (pv 4) fun _ _ => rfl) pe_int fun _ _ => rfl) (pe_call (F_law_ways.up (by decide)).ok hr rfl T.g_law_ways.1 T.g_law_ways.2 (F_law_ways.up (by decide)).bn .nil (pass_own rfl rfl rfl rfl) (pa_cons (pv 0) (pa_cons (pe_ix ix_seq (pe_dget (hu1 hr) (pv 2) (pv 3) fun _ _ => rfl) pe_int fun _ _ => rfl) pa_nil)))) (by with_unfolding_all rfl))
      (pss_one (ps_ret (pe_tup (pa_cons (pv 3) (pa_cons (pv 4) pa_nil)))))
      pss_nil)))))
      (pss_one (ps_ret pe_non)))), fun ws ka out B F0 Q hC hR hX => ?_⟩)
  obtain ⟨a, b, rfl, ps, es, gr, rfl, rfl, sub, hst, hn, hl, hel, hgl, rfl, rfl⟩ := hC
  have hps : ∀ r ∈ es, r.2.2 ∈ ps := fun r h => (hst r h).2
  refine q_asg (ev_callP (ea1 (ev_var rfl)) ⟨_, rfl, ps, es, rfl, hn, by omega, rfl, rfl⟩) ?_
  refine q_forn (ei_strsL (ev_var rfl) .vt) (fun i ro ka => ∃ v3 v4, ro = [some (.val (PtD ps es)), some (.val (.tup (stD (lnN gr)))), some (.val (.dic (enD es))), v3, v4] ∧ ka = [] ∧ ∀ r ∈ gr.take i, gr.find? (noB es r) = none) ⟨_, _, rfl, rfl, fun r hr => by rw [List.take_zero] at hr; cases hr⟩ (fun _ _ _ _ => trivial) (fun i w ro2 ka2 ta2 hw ⟨v3, v4, e1, e2, hs⟩ => ?_) (fun ro2 ka2 ta2 ⟨v3, v4, e1, e2, hs⟩ hta => ?_)
  rotate_left
  · subst e1 e2
    rw [List.length_map, lnN_len, List.take_length] at hs
    rw [noP_none hs] at hR
    exact g_ret hR ev_non ⟨rfl, rfl⟩
  subst e1 e2
  rw [List.getElem?_map, show lnN gr = gr.map fun r => r.1 from rfl, List.getElem?_map, Option.map_map] at hw
  obtain ⟨r, hr, rfl⟩ := Option.map_eq_some_iff.mp hw
  have mr := List.mem_of_getElem? hr
  have hre := sub r mr
  refine g_forn (ei_strsL (ev_var rfl) .vt) (fun j ro ka => ∃ v4, ro = [some (.val (PtD ps es)), some (.val (.tup (stD (lnN gr)))), some (.val (.dic (enD es))), some (.val (.str r.1)), v4] ∧ ka = [] ∧ ∀ s ∈ gr.take j, noB es r s = false) ⟨_, rfl, rfl, fun r hr => by rw [List.take_zero] at hr; cases hr⟩ (fun _ _ _ _ => trivial) (fun j w ro2 ka2 ta3 hw ⟨v4, e1, e2, hs2⟩ => ?_) (fun ro2 ka2 ta3 ⟨v4, e1, e2, hs2⟩ hta => ?_)
  · subst e1 e2
    rw [List.getElem?_map, show lnN gr = gr.map fun r => r.1 from rfl, List.getElem?_map, Option.map_map] at hw
    obtain ⟨s, hs', rfl⟩ := Option.map_eq_some_iff.mp hw
    have ms := List.mem_of_getElem? hs'
    have hse := sub s ms
    refine g_if (b := noB es r s) (et_B ((ev_dniR (bb := !noB es r s) (k2 := []) (ev_ixV (d := .str s.2.1) (ev_dgetV (d := lnD s) (ev_var rfl) (ev_var rfl) .v (enD_getm hn hse)) ev_int .vt (atI_nat (j := 0) rfl)) (evr_call (k1 := []) [] (ea2 (ev_var rfl) (ev_ixV (d := .str r.2.2) (ev_dgetV (d := lnD r) (ev_var rfl) (ev_var rfl) .v (enD_getm hn hre)) ev_int .vt (atI_nat (j := 1) rfl))) ⟨_, _, rfl, ps, es, r.2.2, rfl, rfl, hps r hre, hps, by omega, by omega, rfl, rfl⟩ (fun o k ⟨wy, h, _⟩ => ⟨_, h⟩)) ?t4).to (by rw [Bool.not_not]))) (fun hb => ?_) (fun hb => g_next (g_jp ⟨_, rfl, rfl, fun y hy => ?_⟩))
    case t4 =>
      rintro w k ⟨d, k2, ⟨wy2, e1, e2, hwy2⟩, e3, e4⟩
      cases e1
      subst e2 e3 e4
      refine ⟨rfl, wyD wy2, false, .v, ?_⟩
      rw [show wyD wy2 = tbD _ wy2 from rfl, tb_in, Bool.eq_iff_iff, decide_eq_true_eq, Bool.not_eq_true', ← Bool.not_eq_true, noB_iff hse, Classical.not_not]
      exact hwy2.all s.2.1
    · rw [noP_at hs hr (find_first hs2 hs' hb)] at hR
      exact g_ret hR (ev_tup (ds := [.str r.1, .str s.1]) (ea2 (ev_var rfl) (ev_var rfl)) (show 2 ≤ 100000 by decide)) ⟨rfl, rfl⟩
    · rw [take_succ_some hs'] at hy
      rcases List.mem_append.mp hy with hy | hy
      · exact hs2 y hy
      · rw [List.mem_singleton.mp hy]; exact hb
  · subst e1 e2
    rw [List.length_map, lnN_len, List.take_length] at hs2
    refine g_next (g_jpH hta ⟨_, _, rfl, rfl, fun y hy => ?_⟩)
    rw [take_succ_some hr] at hy
    rcases List.mem_append.mp hy with hy | hy
    · exact hs y hy
    · rw [List.mem_singleton.mp hy]
      exact List.find?_eq_none.mpr fun s hs => by rw [hs2 s hs]; decide
end
def ct_law_right_side (K : PySem.W.Frag) : Ct := Ct3 fun a b c ka out => ∃ (ps : List Str) (es : List Ln) (x : Ln × Ln), a = .val (PtD ps es) ∧ b = .val (.tup [.str x.1.1, .str x.2.1]) ∧ c = .val (.tup (stD (rchL ps es x.1.2.2))) ∧ x.1 ∈ es ∧ x.2 ∈ es ∧ noB es x.1 x.2 = true ∧ (∀ r ∈ es, r.2.1 ∈ ps ∧ r.2.2 ∈ ps) ∧ (lnN es).Nodup ∧ ps.length ≤ 900 ∧ es.length ≤ 10000 ∧ ka = [] ∧ out = Rt (.bl true) []
section
variable {P : Program} {w : World} {K : PySem.W.Frag} {mg : Str → Option Value} {base : Heap}
theorem ok_law_right_side (T : Tx K mg) (F_law_ends : Fn P w K mg base 4 (He.ga K "_law_ends") ["_law_parts"] (ct_law_ends K)) : Fn P w K mg base 6 (He.ga K "_law_right_side") ["_law_parts", "_law_pair_here", "_law_side"] (ct_law_right_side K) := by
  obtain ⟨fd, F⟩ := T.d_law_right_side
  refine fn_ok F sc_law_right_side (fun _ _ _ _ _ _ us hl => match us, hl with | [_, _, _], _ => rfl) ct3_len (fun cdv A outer s H E hr => ⟨_, (pss_cons (ps_set (i := 3) sc_law_right_side.nd rfl (by first | exact Or.inl rfl | exact Or.inr rfl) (pe_call (F_law_ends.up (by decide)).ok hr rfl T.g_law_ends.1 T.g_law_ends.2 (F_law_ends.up (by decide)).bn .nil (pass_own rfl rfl rfl rfl) (pa_cons (pv 0) pa_nil)))
      (pss_cons (ps_if (PW.pt (pw_or (pt_cmpR op_niU (pe_ix ix_seq (pe_dget (hu1 hr) (pv 3) (pe_ix ix_seq (pv 1) pe_int fun _ _ => rfl) fun _ _ => rfl) pe_int fun _ _ => rfl) (pv 2) (by with_unfolding_all rfl)) (pw_or1 (pt_cmpR op_inU (pe_ix ix_seq (pe_dget (hu1 hr) (pv 3) (pe_ix ix_seq (pv 1) pe_int fun _ _ => rfl) fun _ _ => rfl) pe_int fun _ _ => rfl) (pv 2) (by with_unfolding_all rfl)))))
      (pss_one (ps_ret pe_bl))
      pss_nil)
      (pss_one (ps_ret (pe_cmpR (op_eqP (by have := (hr).units; exact this)) (pe_lc (te := (tVar 4)) (tt := (tAnd (tTest (tOp (rInU K) (tOp (rIx K) (tVar 4) (tC (.int 1))) (tVar 2))) (tTest (tOp (rNiU K) (tOp (rIx K) (tVar 4) (tC (.int 2))) (tVar 2))))) (own := [("_law_row", 4)]) rfl sc_law_right_side.nd (pi_seq (pe_ix ix_seq (pv 0) pe_int fun _ _ => rfl)) (blk_ok ["_law_parts", "_law_pair_here", "_law_side", "_law_ends_here", "_law_row"] (defScope s_law_right_side) rfl rfl (by decide +kernel)) (fun _ _ _ _ _ => (pg_name (i := 4) sc_law_right_side.nd rfl (by first | exact Or.inl rfl | exact Or.inr rfl))) (fun _ _ _ _ _ => (pts_one (PW.pt (pw_and (pt_cmpR op_inU (pe_ix ix_seq (pv 4) pe_int fun _ _ => rfl) (pv 2) (by with_unfolding_all rfl)) (pw_and1 (pt_cmpR op_niU (pe_ix ix_seq (pv 4) pe_int fun _ _ => rfl) (pv 2) (by with_unfolding_all rfl))))))) (fun _ _ _ _ _ => (pv 4))) (pe_lst pa_nil) (nomark _)))))), fun ws ka out B F0 Q hC hR hX => ?_⟩)
  obtain ⟨a, b, c, rfl, ps, es, ⟨r, s⟩, rfl, rfl, rfl, hre, hse, no, hst, hn, hl, hel, rfl, rfl⟩ := hC
  rw [noB_iff hse] at no
  have hr2 := (hst r hre).2
  refine q_asg (ev_callP (ea1 (ev_var rfl)) ⟨_, rfl, ps, es, rfl, hn, by omega, rfl, rfl⟩) ?_
  have i1 : r.2.2 ∈ rchL ps es r.2.2 := in_rchL.mpr ⟨hr2, .refl⟩
  have i2 : ¬ s.2.1 ∈ rchL ps es r.2.2 := fun h => no (in_rchL.mp h).2
  have cl : ∀ x ∈ es, x.2.1 ∈ rchL ps es r.2.2 → x.2.2 ∈ rchL ps es r.2.2 := fun x hx h => in_rchL.mpr ⟨(hst x hx).2, .step (in_rchL.mp h).2 hx rfl⟩
  generalize rchL ps es r.2.2 = ss at *
  refine q_when (b := false) (et_or0 ((et_test (ev_niL (ev_ixV (d := .str r.2.2) (ev_dgetV (d := lnD r) (ev_var rfl) (ev_ixV (d := .str r.1) (ev_var rfl) ev_int .vt (atI_nat (j := 0) rfl)) .v (enD_getm hn hre)) ev_int .vt (atI_nat (j := 1) rfl)) (ev_var rfl) .vt)).to (by rw [decide_eq_true i1]; rfl)) ((et_test (ev_inL (ev_ixV (d := .str s.2.1) (ev_dgetV (d := lnD s) (ev_var rfl) (ev_ixV (d := .str s.1) (ev_var rfl) ev_int .vt (atI_nat (j := 1) rfl)) .v (enD_getm hn hse)) ev_int .vt (atI_nat (j := 0) rfl)) (ev_var rfl) .vt)).to (decide_eq_false i2))) (fun z => by cases z) (fun _ => ?_)
  have none1 : es.filter (fun x => decide (x.2.1 ∈ ss) && !decide (x.2.2 ∈ ss)) = [] := List.filter_eq_nil_iff.mpr fun x hx z => by
    rw [Bool.and_eq_true, decide_eq_true_eq, Bool.not_eq_true', decide_eq_false_iff_not] at z
    exact z.2 (cl x hx z.1)
  exact g_ret hR ((ev_eq (d := .lst []) (e := .lst []) ((evn_filt (xs := es) (g := fun r => W.val (rwL r)) (f := fun r => rwL r) (p := fun x => decide (x.2.1 ∈ ss) && !decide (x.2.2 ∈ ss)) (ei_map (ts := es) (f := rwL) (ev_ixV (ev_var rfl) ev_int .vl (atI_nat (j := 1) rfl))) (by decide) (by omega) ⟨trivial, fun _ => trivial⟩ (fun x hx => et_and (et_test (ev_inL (ev_ixV (d := .str x.2.1) (ev_var rfl) ev_int .vt (atI_nat (j := 1) rfl)) (ev_var rfl) .vt)) fun _ => et_test (ev_niL (ev_ixV (d := .str x.2.2) (ev_var rfl) ev_int .vt (atI_nat (j := 2) rfl)) (ev_var rfl) .vt)) (fun x hx _ => ev_var rfl)).lst.to (by rw [none1]; rfl)) (evn_lst (ds := []) ea_nil (by decide)).lst .v .v rfl rfl).to (w' := .val (.bl true)) (by rfl)) ⟨rfl, rfl⟩
end
def ct_law_right_round (K : PySem.W.Frag) : Ct := Ct4 fun a b c d ka out => ∃ ps es qs fs ws, a = .val (PtD ps es) ∧ b = .val (PtD qs fs) ∧ c = .val (.lst (stD ws)) ∧ PtOk ps es ∧ PtOk qs fs ∧ ws ≠ [] ∧ ws.length ≤ 100 ∧ ka = [] ∧ out = Rt (.bl true) [] ∧
  ((∃ ls, heB es ws = true ∧ d = .val (.tup [.str "told", RD K (stD ls)]) ∧ rndB es ls ws = true ∧ ls.length ≤ 1000) ∨ (∃ ls, heB es ws = false ∧ heB fs ws = true ∧ d = .val (.tup [.str "told", RD K (stD ls)]) ∧ rndB fs ls ws = true ∧ ls.length ≤ 1000) ∨ (heB es ws = false ∧ heB fs ws = false ∧ d = .val (.tup [.str "told", .non])))
section
variable {P : Program} {w : World} {K : PySem.W.Frag} {mg : Str → Option Value} {base : Heap}
theorem ok_law_right_round (T : Tx K mg) (F_Round_lanes : Fn P w K mg base 4 (pga K (He.ga K "Round") "lanes") ["self"] (ct_Round_lanes K)) (F_law_held_part : Fn P w K mg base 10 (He.ga K "_law_held_part") ["_law_parts", "_law_wanted"] (ct_law_held_part K)) (F_law_is_round : Fn P w K mg base 6 (He.ga K "_law_is_round") ["_law_parts", "_law_lanes_here", "_law_wanted"] (ct_law_is_round K)) : Fn P w K mg base 12 (He.ga K "_law_right_round") ["_law_parts", "_law_other", "_law_wanted", "_law_told_here"] (ct_law_right_round K) := by
  obtain ⟨fd, F⟩ := T.d_law_right_round
  refine fn_ok F sc_law_right_round (fun _ _ _ _ _ _ us hl => match us, hl with | [_, _, _, _], _ => rfl) ct4_len (fun cdv A outer s H E hr => ⟨_, (pss_cons (ps_for (passes_of rfl) rfl (pi_seq (pe_tup (pa_cons (pe_tup (pa_cons (pv 0) (pa_cons (pv 1) pa_nil))) (pa_cons (pe_tup (pa_cons (pv 1) (pa_cons (pv 0) pa_nil))) pa_nil)))) (pg_tup rfl (pgs_cons (pg_name (i := 4) sc_law_right_round.nd rfl (by first | exact Or.inl rfl | exact Or.inr rfl)) (pgs_cons (pg_name (i := 5) sc_law_right_round.nd rfl (by first | exact Or.inl rfl | exact Or.inr rfl)) pgs_nil))) (pss_one (ps_if (pt_cmpR op_notN1 (pe_call (F_law_held_part.up (by decide)).ok hr rfl T.g_law_held_part.1 T.g_law_held_part.2 (F_law_held_part.up (by decide)).bn .nil (pass_own rfl rfl rfl rfl) (pa_cons (pv 4) (pa_cons (pv 2) pa_nil))) pe_non (nomark _))
      (pss_one (ps_ret (pe_and (pe_cmpR op_notN1 (pe_ix ix_seq (pv 3) pe_int fun _ _ => rfl) pe_non (nomark _)) (pe_one (pe_call (F_law_is_round.up (by decide)).ok hr rfl T.g_law_is_round.1 T.g_law_is_round.2 (F_law_is_round.up (by decide)).bn .nil (pass_own rfl rfl rfl rfl) (pa_cons (pv 4) (pa_cons (pe_prop (pe_ix ix_seq (pv 3) pe_int fun _ _ => rfl) T.cl_Round T.pr_Round_lanes (F_Round_lanes.up (by decide)).ok hr (F_Round_lanes.up (by decide)).bn .nil passes_no rfl) (pa_cons (pv 2) pa_nil))))))))
      pss_nil)))
      (pss_one (ps_ret (pe_cmpR (op_eqP (by have := (hr).units; exact this)) (pv 3) (pe_tup (pa_cons pe_str (pa_cons pe_non pa_nil))) (nomark _))))), fun ws ka out B F0 Q hC hR hX => ?_⟩)
  obtain ⟨a, b, c, d, rfl, ps, es, qs, fs, ws, rfl, rfl, rfl, ok1, ok2, hne, hwl, rfl, rfl, hd⟩ := hC
  have hel1 := ok1.el
  have hel2 := ok2.el
  refine q_forT (ei_seq (ds := [.tup [PtD ps es, PtD qs fs], .tup [PtD qs fs, PtD ps es]]) (ev_tup (ds := [.tup [PtD ps es, PtD qs fs], .tup [PtD qs fs, PtD ps es]]) (ea2 (ev_tup (ds := [PtD ps es, PtD qs fs]) (ea2 (ev_var (i := 0) rfl) (ev_var (i := 1) rfl)) (show 2 ≤ 100000 by decide)) (ev_tup (ds := [PtD qs fs, PtD ps es]) (ea2 (ev_var (i := 1) rfl) (ev_var (i := 0) rfl)) (show 2 ≤ 100000 by decide))) (show 2 ≤ 100000 by decide)) .vt) (fun i ro ka => ∃ v4 v5, ro = [some (.val (PtD ps es)), some (.val (PtD qs fs)), some (.val (.lst (stD ws))), some d, v4, v5] ∧ ka = [] ∧ (0 < i → heB es ws = false) ∧ (1 < i → heB fs ws = false)) ⟨_, _, rfl, rfl, fun z => absurd z (by decide), fun z => absurd z (by decide)⟩ (fun _ _ _ _ => trivial) (fun i w ro2 ka2 ta2 hw ⟨v4, v5, e1, e2, h1, h2⟩ => ?_) (fun ro2 ka2 ta2 ⟨v4, v5, e1, e2, h1, h2⟩ hta => ?_)
  rotate_left
  · subst e1 e2
    have n1 := h1 (show 0 < 2 by decide)
    have n2 := h2 (show 1 < 2 by decide)
    rcases hd with ⟨ls, hb, _⟩ | ⟨ls, _, hb, _⟩ | ⟨_, _, rfl⟩
    · rw [n1] at hb; cases hb
    · rw [n2] at hb; cases hb
    · exact g_ret hR ((ev_eq (d := .tup [.str "told", .non]) (e := .tup [.str "told", .non]) (ev_var rfl) (ev_tup (ds := [.str "told", .non]) (ea2 ev_str ev_non) (show 2 ≤ 100000 by decide)) .v .v rfl rfl).to (w' := .val (.bl true)) (by rw [eqD_refl 61 _ rfl])) ⟨rfl, rfl⟩
  subst e1 e2
  have tst : ∀ {ps1 : List Str} {es1 : List Ln} {ro : Ro} {E' : XK}, PtOk ps1 es1 → ro[4]? = some (some (.val (PtD ps1 es1))) → ro[2]? = some (some (.val (.lst (stD ws)))) → EvD K (tCall (spC K (ct_law_held_part K)) [] E' (tCons (tVar 4) (tCons (tVar 2) tNil))) ro [] (.val (hpD ps1 es1 ws)) [] := fun {ps1 es1 ro E'} ok h4 h2 => ev_callP (ea2 (ev_var h4) (ev_var h2)) ⟨_, _, rfl, ps1, es1, ws, rfl, rfl, ok, hne, hwl, rfl, rfl⟩
  have yes : ∀ {ps1 : List Str} {es1 : List Ln} {ls : List Str} {ro : Ro}, PtOk ps1 es1 → rndB es1 ls ws = true → ls.length ≤ 1000 → ro[4]? = some (some (.val (PtD ps1 es1))) → ro[2]? = some (some (.val (.lst (stD ws)))) → ro[3]? = some (some (.val (.tup [.str "told", RD K (stD ls)]))) → EvD K (tCall (spC K (ct_law_is_round K)) [] E (tCons (tVar 4) (tCons (tProp (He.ga K "Round") (spC K (ct_Round_lanes K)) [] (fun _ _ _ => False) (tOp (rIx K) (tVar 3) (tC (.int 1)))) (tCons (tVar 2) tNil)))) ro [] (.val (.bl true)) [] := fun {ps1 es1 ls ro} ok hb hll h4 h2 h3 => by
    have hel := ok.el
    exact ev_callP (ea3 (ev_var h4) (ev_prop (k1 := []) [] (d := .tup (stD ls)) (ev_ixV (d := RD K (stD ls)) (ev_var h3) ev_int .vt (atI_nat (j := 1) rfl)) .v (Cc := ct_Round_lanes K) ⟨_, rfl, stD ls, rfl, rfl, rfl⟩ fun _ _ z => z) (ev_var h2)) ⟨_, _, _, rfl, ps1, es1, ls, ws, true, false, rfl, rfl, rfl, ok.ed, by omega, by omega, by omega, rfl, by rw [hb]⟩
  match i, hw, h1, h2 with
  | 0, hw, h1, h2 =>
    cases hw
    refine ⟨_, at_t2, ?_⟩
    refine g_if (b := heB es ws) ((et_test (ev_notN (d := hpD ps es ws) (tst ok1 rfl rfl) (.inl rfl))).to (by rw [hpD_non ok1 hne, Bool.not_not])) (fun hb => ?_) (fun hb => g_next (g_jp ⟨_, _, rfl, rfl, fun _ => hb, fun z => absurd z (by decide)⟩))
    rcases hd with ⟨ls, _, rfl, hr, hll⟩ | ⟨ls, hb2, _⟩ | ⟨hb2, _⟩
    · exact g_ret hR (ev_andV1 ((ev_notN (d := RD K (stD ls)) (ev_ixV (d := RD K (stD ls)) (ev_var rfl) ev_int .vt (atI_nat (j := 1) rfl)) (.inl rfl)).to rfl) (yes ok1 hr hll rfl rfl rfl)) ⟨rfl, rfl⟩
    · rw [hb] at hb2; cases hb2
    · rw [hb] at hb2; cases hb2
  | 1, hw, h1, h2 =>
    cases hw
    have n1 := h1 (by decide)
    refine ⟨_, at_t2, ?_⟩
    refine g_if (b := heB fs ws) ((et_test (ev_notN (d := hpD qs fs ws) (tst ok2 rfl rfl) (.inl rfl))).to (by rw [hpD_non ok2 hne, Bool.not_not])) (fun hb => ?_) (fun hb => g_next (g_jp ⟨_, _, rfl, rfl, fun _ => n1, fun _ => hb⟩))
    rcases hd with ⟨ls, hb2, _⟩ | ⟨ls, _, _, rfl, hr, hll⟩ | ⟨_, hb2, _⟩
    · rw [n1] at hb2; cases hb2
    · exact g_ret hR (ev_andV1 ((ev_notN (d := RD K (stD ls)) (ev_ixV (d := RD K (stD ls)) (ev_var rfl) ev_int .vt (atI_nat (j := 1) rfl)) (.inl rfl)).to rfl) (yes ok2 hr hll rfl rfl rfl)) ⟨rfl, rfl⟩
    · rw [hb] at hb2; cases hb2
  | i + 2, hw, _, _ => cases hw
end
theorem rndB_wk {es : List Ln} (hn : (lnN es).Nodup) {ls ws : List Str} {p : Str} (w : Wk es p ls p) (hne : ls ≠ []) (hw : ∀ x ∈ ws, x ∈ ls) : rndB es ls ws = true := by
  have hp := List.length_pos_iff.mpr hne
  unfold rndB
  rw [decide_eq_false hne, List.all_eq_true.mpr (fun x hx => ?a), List.all_eq_true.mpr (fun i hi => ?b), List.all_eq_true.mpr (fun x hx => decide_eq_true (hw x hx))]
  · rfl
  case a =>
    obtain ⟨i, hi, rfl⟩ := List.mem_iff_getElem.mp hx
    have := (cyc_at hn w hi).1
    rw [List.getD_eq_getElem?_getD, List.getElem?_eq_getElem hi] at this
    exact decide_eq_true this
  case b =>
    have hi := List.mem_range.mp hi
    have hj : (i + (ls.length - 1)) % ls.length < ls.length := Nat.mod_lt _ hp
    have h2 := (cyc_at hn w hj).2
    have e : ((i + (ls.length - 1)) % ls.length + 1) % ls.length = i := by
      rw [Nat.mod_add_mod, show i + (ls.length - 1) + 1 = i + ls.length by omega, Nat.add_mod_right, Nat.mod_eq_of_lt hi]
    rw [e] at h2
    rw [h2, beq_self_eq_true]
/-! ### wanted lanes that no round takes -/
theorem row_goal (es : List Ln) (ws : List Str) : goalL es ws = lnN (es.filter fun r => decide (r.1 ∈ ws)) := by
  unfold goalL lnN
  rw [List.filter_map]
  rfl
theorem goal_flt {es : List Ln} (hn : (lnN es).Nodup) (f : Ln → Bool) : goalL es (lnN (es.filter f)) = lnN (es.filter f) := by
  have := goal_sub hn (f := f) (p := fun _ => true)
  rw [List.filter_eq_self.mpr (fun _ _ => rfl)] at this
  exact this
theorem noP_some {es gr : List Ln} {x : Ln × Ln} (h : noP es gr = some x) : x.1 ∈ gr ∧ x.2 ∈ gr ∧ noB es x.1 x.2 = true := by
  obtain ⟨r, hr, h2⟩ := List.exists_of_findSome?_eq_some h
  obtain ⟨s, hs, rfl⟩ := Option.map_eq_some_iff.mp h2
  exact ⟨hr, List.mem_of_find?_eq_some hs, List.find?_some hs⟩
theorem noP_all {es gr : List Ln} (h : noP es gr = none) : ∀ r ∈ gr, ∀ s ∈ gr, ¬ noB es r s = true := fun r hr s hs => by
  have h1 := List.findSome?_eq_none_iff.mp h r hr
  have h2 := Option.map_eq_none_iff.mp h1
  exact List.find?_eq_none.mp h2 s hs
/-- all lead to one another: one part -/
theorem pair_part {ps : List Str} {es gr : List Ln} (ok : PtOk ps es) (hg : goalL es (lnN gr) = lnN gr) (sub : ∀ r ∈ gr, r ∈ es) {r0 : Ln} {gt : List Ln} (e : gr = r0 :: gt) (h : noP es gr = none) : Rch es r0.2.2 r0.2.1 ∧ pwF ps es (lnN gr) = some (mutL ps es r0.2.1, innL es (mutL ps es r0.2.1)) := by
  have all := noP_all h
  have rc : ∀ r ∈ gr, ∀ s ∈ gr, Rch es r.2.2 s.2.1 := fun r hr s hs => by
    have := all r hr s hs
    rw [noB_iff (sub s hs), Classical.not_not] at this
    exact this
  subst e
  have m0 : r0 ∈ r0 :: gt := List.mem_cons_self
  have x0 := (ok.st r0 (sub r0 m0)).1
  have hb := rc r0 m0 r0 m0
  refine ⟨hb, ?_⟩
  rw [← hg]
  have hw : ∀ w ∈ r0.1 :: lnN gt, w ∈ lnN es := fun w hw => by
    obtain ⟨r, hr, rfl⟩ := List.mem_map.mp (show w ∈ lnN (r0 :: gt) from hw)
    exact List.mem_map.mpr ⟨r, sub r hr, rfl⟩
  refine (ip_head ok (sub r0 m0) hw).mpr ⟨rfl, hb, fun w hw => ?_⟩
  obtain ⟨r, hr, rfl⟩ := List.mem_map.mp (show w ∈ lnN (r0 :: gt) from hw)
  have st := ok.st r (sub r hr)
  have go : ∀ {a b c : Str}, Rch es a b → Rch es b c → Rch es a c := fun h1 h2 => h1.trans h2
  have s0 : Rch es r0.2.1 r0.2.2 := .step .refl (sub r0 m0) rfl
  have sr : Rch es r.2.1 r.2.2 := .step .refl (sub r hr) rfl
  have a1 : Rch es r0.2.1 r.2.1 := go s0 (rc r0 m0 r hr)
  have a2 : Rch es r.2.2 r0.2.1 := rc r hr r0 m0
  have i1 : r.2.1 ∈ mutL ps es r0.2.1 := (mem_mutL x0).mpr ⟨st.1, a1, go sr a2⟩
  have i2 : r.2.2 ∈ mutL ps es r0.2.1 := (mem_mutL x0).mpr ⟨st.2, go a1 sr, a2⟩
  exact List.mem_map.mpr ⟨r, List.mem_filter.mpr ⟨sub r hr, by rw [decide_eq_true i1, decide_eq_true i2]; rfl⟩, rfl⟩
/-- names drawn, and a net of them -/
theorem evr_lose {K : PySem.W.Frag} {ro : Ro} {te tf : TE} {E1 E2 E3 : XK} {b : Addr} {p : Pl} {n : Int} {ls : List Str} (h : ∀ p' : Pl, EvD K te ro [(b, .lst p'.ds)] (.val (.adr b)) [(b, .lst p'.ds)]) (hf : ∀ p' : Pl, EvD K tf ro [(b, .lst p'.ds)] (.val (.lst (stD ls))) [(b, .lst p'.ds)]) (hp : p.Ok n) (h0 : 0 ≤ n) (h1 : n ≤ 1000) (hl : ls.length ≤ 50) (hd : ls.Nodup) (hm : ∀ l ∈ ls, isNm l = true) :
    EvR K (tCall (spC K (ct_law_loose_net K)) [] E3 (tCons te (tCons (tCall (spC K (ct_law_many K)) [] E1 (tCons te (tCons (tOp (rAddU K) (tC (.int 1)) (tCall (spC K (ct_law_take K)) [] E2 (tCons te (tCons (tC (.int 4)) tNil)))) tNil))) (tCons tf tNil)))) ro [(b, .lst p.ds)] (fun w k => ∃ ps es p', w = .val (PtD ps es) ∧ k = [(b, .lst (Pl.ds p'))] ∧ p'.Ok (n + 160) ∧ PtOk ps es ∧ lnN es = ls ∧ ps.length ≤ 4) := by
  have t4 := tk_lt p (m := 4) (by decide)
  have o4 := tk_ok hp (m := 4) (by decide)
  refine evr_callAR (ear_cD (h p) (ear_cons (P := fun w k => ∃ ss p', w = .val (.lst (stD ss)) ∧ k = [(b, .lst (Pl.ds p'))] ∧ p'.Ok (n + 55) ∧ 0 < ss.length ∧ ss.length ≤ 4 ∧ (∀ s ∈ ss, isNm s = true) ∧ ss.Nodup) (R := fun w ws k => ∃ ss p', w = .val (.lst (stD ss)) ∧ ws = [.val (.lst (stD ls))] ∧ k = [(b, .lst (Pl.ds p'))] ∧ p'.Ok (n + 55) ∧ 0 < ss.length ∧ ss.length ≤ 4 ∧ (∀ s ∈ ss, isNm s = true) ∧ ss.Nodup) (EvR.imp (evr_call (k1 := [(b, .lst (tk p 4).2.ds)]) [] (ea2 (h p) (ev_addI ev_int (ev_take (kr := []) (h p) ev_int (hp.up (by omega)) (by decide) (by decide)))) ⟨_, _, rfl, b, (tk p 4).2, _, 1 + (tk p 4).1, rfl, rfl, rfl, o4, by omega, by omega, by omega, by omega, rfl⟩ (fun o k ⟨ss, p', h, _⟩ => ⟨_, h⟩)) ?_) (fun w k hw => ?_))) ?_
  · rintro w k ⟨d, k2, ⟨ss, p', e1, rfl, hp', hl, hn, hd⟩, e2, rfl⟩
    cases e1
    exact ⟨ss, p', e2, rfl, hp'.up (by omega), by omega, by omega, hn, hd⟩
  · obtain ⟨ss, p', rfl, rfl, r⟩ := hw
    exact EvAR.imp (ea1 (hf p')).toR fun ws k e => ⟨ss, p', rfl, e.1, e.2, r⟩
  · rintro _ _ ⟨ws, rfl, w, ws', rfl, ss, p', rfl, rfl, rfl, hp', hs0, hs4, hn, hd2⟩
    refine ⟨_, [(b, .lst p'.ds)], [], _, List.Perm.refl _, rfl, ⟨_, _, _, rfl, b, p', n + 55, ss, ls, rfl, rfl, rfl, rfl, hp', by omega, by omega, fun z => (by rw [z] at hs0; cases hs0), by omega, hd2, hn, hl, hd, hm, rfl⟩, fun o k ⟨es, p2, h, _⟩ => ⟨_, h⟩, ?_⟩
    rintro d k2 ⟨es, p2, e1, rfl, hp2, hok, hes⟩
    cases e1
    exact ⟨ss, es, p2, rfl, rfl, hp2.up (by omega), hok, hes, hs4⟩
/-- some of these in the order of a net -/
theorem evr_io {K : PySem.W.Frag} {ro : Ro} {te tl : TE} {E : XK} {ka : Cells} {ps : List Str} {es : List Ln} {R : List Str → Cells → Prop} (h : EvD K te ro ka (.val (PtD ps es)) ka) (h2 : EvR K tl ro ka (fun w k => ∃ ws, w = .val (.lst (stD ws)) ∧ R ws k)) (hel : es.length ≤ 10000) : EvR K (tCall (spC K (ct_law_in_order K)) [] E (tCons te (tCons tl tNil))) ro ka (fun w k => ∃ ws, w = .val (.tup (stD (goalL es ws))) ∧ R ws k) :=
  evr_call2R h h2 fun y k ⟨ws, e, r⟩ => by
    subst e
    exact ⟨[], k, Rt (.tup (stD (goalL es ws))) [], rfl, ⟨_, _, rfl, ps, es, ws, false, rfl, .vl, hel, rfl, rfl⟩, fun o k h => ⟨_, h.1⟩, fun d k2 h => by cases h.1; exact ⟨ws, rfl, by rw [h.2]; exact r⟩⟩
/-- what one of two wants and the other one does not -/
def lackL (gs hs : List Str) : List Str := (gs.filter fun x => !decide (x ∈ hs)) ++ hs.filter fun x => !decide (x ∈ gs)
theorem lack_head (gs hs : List Str) : lackO gs hs = (lackL gs hs).head? := by
  unfold lackO lackL
  rw [List.head?_append, List.head?_filter, List.head?_filter]
  cases gs.find? (fun x => !decide (x ∈ hs)) <;> rfl
/-- one of the two nets -/
structure Side (ps : List Str) (es gr : List Ln) (W : List Str) : Prop where
  ok : PtOk ps es
  pl : ps.length ≤ 4
  el : es.length ≤ 6
  gne : gr ≠ []
  sub : ∀ r ∈ gr, r ∈ es
  go : goalL es (lnN gr) = lnN gr
  same : ∀ x, x ∈ lnN gr ↔ x ∈ W
theorem held_mem {es : List Ln} {xs ys : List Str} (h : ∀ x, x ∈ xs ↔ x ∈ ys) : heB es xs = heB es ys := by
  rw [Bool.eq_iff_iff, heB_t, heB_t]
  exact ⟨fun ⟨T, p, a, b⟩ => ⟨T, p, a, fun w hw => b w ((h w).mpr hw)⟩, fun ⟨T, p, a, b⟩ => ⟨T, p, a, fun w hw => b w ((h w).mp hw)⟩⟩
theorem side_of {ps : List Str} {es : List Ln} {W : List Str} (ok : PtOk ps es) (pl : ps.length ≤ 4) (el : es.length ≤ 6) (hne : W ≠ []) (hw : ∀ w ∈ W, w ∈ lnN es) : ∃ gr, goalL es W = lnN gr ∧ Side ps es gr W := by
  have sm := mem_goal hw
  refine ⟨es.filter fun r => decide (r.1 ∈ W), row_goal es W, ok, pl, el, fun z => ?_, fun r hr => (List.mem_filter.mp hr).1, goal_flt ok.ed _, fun x => ?_⟩
  · obtain ⟨x, hx⟩ := List.exists_mem_of_ne_nil _ hne
    have := (sm x).mpr hx
    rw [row_goal, z] at this
    cases this
  · rw [← row_goal]
    exact sm x
namespace Side
variable {K : PySem.W.Frag} {ps : List Str} {es gr : List Ln} {W : List Str}
theorem gl (h : Side ps es gr W) : (lnN gr).length ≤ 6 := by
  rw [← h.go]
  refine Nat.le_trans (List.length_filter_le _ _) ?_
  rw [lnN_len]
  exact h.el
theorem lne (h : Side ps es gr W) : lnN gr ≠ [] := fun z => h.gne (List.map_eq_nil_iff.mp z)
theorem ask (h : Side ps es gr W) : AskOk ps es (lnN gr) := ⟨h.ok, h.lne, Nat.le_trans h.gl (by decide), Nat.le_trans h.pl (by decide), Nat.le_trans h.el (by decide)⟩
theorem wes (h : Side ps es gr W) : ∀ w ∈ lnN gr, w ∈ lnN es := fun w hw => by
  obtain ⟨r, m, rfl⟩ := List.mem_map.mp hw
  exact List.mem_map.mpr ⟨r, h.sub r m, rfl⟩
theorem hold (h : Side ps es gr W) (hb : heB es W = true) : ∃ q, HasQ ps es (lnN gr) q ∧ rndB es (rndL ps es (lnN gr) q) W = true ∧ (rndL ps es (lnN gr) q).length ≤ 1000 := by
  rw [← held_mem h.same, heB_t, ← held_pw h.ok h.lne] at hb
  obtain ⟨q, hq⟩ := Option.isSome_iff_exists.mp hb
  have ht := tw_of h.ok h.lne h.wes (by rw [h.go]; exact hq)
  rw [h.go] at ht
  have H : HasQ ps es (lnN gr) q := ⟨hq, ht.1, ht.2⟩
  refine ⟨q, H, ?_, Nat.le_trans (rnd_ok h.ask H).2 (by decide)⟩
  obtain ⟨p, hw⟩ := ht.2.closed
  exact rndB_wk h.ok.ed (wk_more (fun r hr => innR_sub hr) hw) ht.2.ne' fun x hx => ht.2.has x ((h.same x).mpr hx)
theorem no (h : Side ps es gr W) (hb : heB es W = false) : pwF ps es (lnN gr) = none ∧ ∃ x, NoR ps es gr x := by
  have hp : pwF ps es (lnN gr) = none := by
    cases e : pwF ps es (lnN gr) with
    | none => rfl
    | some q =>
      have := (held_pw h.ok h.lne).mp (by rw [e]; rfl)
      rw [← heB_t, held_mem h.same, hb] at this
      cases this
  refine ⟨hp, ?_⟩
  have hpl := h.pl
  have hel := h.el
  have hgl := h.gl
  rw [lnN_len] at hgl
  cases e : noP es gr with
  | some x => exact ⟨x, h.ok.pd, h.ok.st, h.ok.ed, by omega, by omega, h.sub, by omega, hp, e⟩
  | none =>
    obtain ⟨r0, gt, eg⟩ := List.exists_cons_of_ne_nil h.gne
    have := (pair_part h.ok h.go h.sub eg e).2
    rw [hp] at this
    cases this
end Side
/-- what is told of two nets, where one of them has no rounds -/
theorem two_told {K : PySem.W.Frag} {ps qs : List Str} {es fs gr hr : List Ln} {W : List Str} (S : Side ps es gr W) (S2 : Side qs fs hr W) (hb : ¬ (heB es W = true ∧ heB fs W = true)) :
    (∃ d0, ct_law_told K [.val (.int ((0 : Nat) : Int)), .val (AskD K ps es (lnN gr)), .val (AskD K qs fs (lnN hr))] [] (Rt d0 []) ∧ ((∃ ls, heB es W = true ∧ d0 = .tup [.str "told", RD K (stD ls)] ∧ rndB es ls W = true ∧ ls.length ≤ 1000) ∨ (∃ ls, heB es W = false ∧ heB fs W = true ∧ d0 = .tup [.str "told", RD K (stD ls)] ∧ rndB fs ls W = true ∧ ls.length ≤ 1000) ∨ (heB es W = false ∧ heB fs W = false ∧ d0 = .tup [.str "told", .non]))) ∧
    ∃ p1 e1 g1 x bt, ([(ps, es), (qs, fs)].filter fun y => !heB y.2 W) = (p1, e1) :: bt ∧ Side p1 e1 g1 W ∧ NoR p1 e1 g1 x ∧ ct_law_told K [.val (.int ((1 : Nat) : Int)), .val (AskD K ps es (lnN gr)), .val (AskD K qs fs (lnN hr))] [] (Rt (.tup [.str "NoRound", .tup [.str x.1.1, .str x.2.1], .tup (stD (rchL p1 e1 x.1.2.2))]) []) := by
  have lk : lackO (lnN gr) (lnN hr) = none := by
    rw [lack_head]
    have : lackL (lnN gr) (lnN hr) = [] := by
      unfold lackL
      rw [List.append_eq_nil_iff, List.filter_eq_nil_iff, List.filter_eq_nil_iff]
      exact ⟨fun x hx => by simp [(S2.same x).mpr ((S.same x).mp hx)], fun x hx => by simp [(S.same x).mpr ((S2.same x).mp hx)]⟩
    rw [this]
    rfl
  cases h1 : heB es W with
  | true =>
    cases h2 : heB fs W with
    | true => exact absurd ⟨h1, h2⟩ hb
    | false =>
      obtain ⟨q, Q, rb, rl⟩ := S.hold h1
      obtain ⟨n, x, N⟩ := S2.no h2
      refine ⟨⟨_, ⟨_, _, _, rfl, 0, _, rfl, rfl, .inl ⟨rfl, _, _, rfl, ps, es, lnN gr, qs, fs, lnN hr, rfl, rfl, S.ask, S2.ask, rfl, .inr ⟨lk, .inr (.inl ⟨q, Q, n, rfl⟩)⟩⟩, .inr (.inr ⟨_, rfl, rfl⟩)⟩, .inl ⟨_, rfl, rfl, rb, rl⟩⟩, qs, fs, hr, x, [], ?_, S2, N, ⟨_, _, _, rfl, 1, _, rfl, rfl, .inr ⟨rfl, _, _, rfl, ps, es, gr, qs, fs, hr, rfl, rfl, S.ask, S2.ask, rfl, .inr ⟨lk, .inr ⟨q, x, Q, N, rfl⟩⟩⟩, .inl ⟨_, _, _, rfl, rfl⟩⟩⟩
      simp [h1, h2]
  | false =>
    obtain ⟨n1, x, N⟩ := S.no h1
    have t1 : ct_law_told K [.val (.int ((1 : Nat) : Int)), .val (AskD K ps es (lnN gr)), .val (AskD K qs fs (lnN hr))] [] (Rt (.tup [.str "NoRound", .tup [.str x.1.1, .str x.2.1], .tup (stD (rchL ps es x.1.2.2))]) []) := ⟨_, _, _, rfl, 1, _, rfl, rfl, .inr ⟨rfl, _, _, rfl, ps, es, gr, qs, fs, hr, rfl, rfl, S.ask, S2.ask, rfl, .inr ⟨lk, .inl ⟨x, N, rfl⟩⟩⟩, .inl ⟨_, _, _, rfl, rfl⟩⟩
    have fl : ([(ps, es), (qs, fs)].filter fun y => !heB y.2 W) = (ps, es) :: ([(qs, fs)].filter fun y => !heB y.2 W) := by
      rw [List.filter_cons_of_pos (by rw [h1]; rfl)]
    cases h2 : heB fs W with
    | true =>
      obtain ⟨q, Q, rb, rl⟩ := S2.hold h2
      exact ⟨⟨_, ⟨_, _, _, rfl, 0, _, rfl, rfl, .inl ⟨rfl, _, _, rfl, ps, es, lnN gr, qs, fs, lnN hr, rfl, rfl, S.ask, S2.ask, rfl, .inr ⟨lk, .inr (.inr ⟨q, n1, Q, rfl⟩)⟩⟩, .inr (.inr ⟨_, rfl, rfl⟩)⟩, .inr (.inl ⟨_, rfl, rfl, rfl, rb, rl⟩)⟩, ps, es, gr, x, _, fl, S, N, t1⟩
    | false =>
      obtain ⟨n2, _, _⟩ := S2.no h2
      exact ⟨⟨_, ⟨_, _, _, rfl, 0, _, rfl, rfl, .inl ⟨rfl, _, _, rfl, ps, es, lnN gr, qs, fs, lnN hr, rfl, rfl, S.ask, S2.ask, rfl, .inr ⟨lk, .inl ⟨n1, n2, rfl⟩⟩⟩, .inr (.inr ⟨_, rfl, rfl⟩)⟩, .inr (.inr ⟨rfl, rfl, rfl⟩)⟩, ps, es, gr, x, _, fl, S, N, t1⟩
def ct_law (K : PySem.W.Frag) : Ct := Ct1 fun a ka out => ∃ ns, Scr K a ns ∧ ka = [] ∧ out = Rt (.bl true) []
section
variable {P : Program} {w : World} {K : PySem.W.Frag} {mg : Str → Option Value} {base : Heap}
theorem ok_law {fd : FuncData} (T : Tx K mg) (F_law_cell : Fn P w K mg base 4 (He.ga K "_law_cell") ["_law_script", "_law_k"] (ct_law_cell K)) (F_law_pool : Fn P w K mg base 4 (He.ga K "_law_pool") ["_law_cell_here"] (ct_law_pool K)) (F_law_take : Fn P w K mg base 4 (He.ga K "_law_take") ["_law_pool_here", "_law_many_here"] (ct_law_take K)) (F_law_many : Fn P w K mg base 6 (He.ga K "_law_many") ["_law_pool_here", "_law_many_here"] (ct_law_many K)) (F_law_built : Fn P w K mg base 8 (He.ga K "_law_built") ["_law_parts"] (ct_law_built K)) (F_Asked___init : Fn P w K mg base 8 (He.ma K (He.ga K "Asked") "__init__") ["self", "net", "wanted"] (ct_Asked___init K)) (F_law_in_order : Fn P w K mg base 4 (He.ga K "_law_in_order") ["_law_parts", "_law_lanes_here"] (ct_law_in_order K)) (F_law_held_part : Fn P w K mg base 10 (He.ga K "_law_held_part") ["_law_parts", "_law_wanted"] (ct_law_held_part K)) (F_law_loose_net : Fn P w K mg base 6 (He.ga K "_law_loose_net") ["_law_pool_here", "_law_posts", "_law_lanes_here"] (ct_law_loose_net K)) (F_law_told : Fn P w K mg base 18 (He.ga K "_law_told") ["_law_kind", "_law_one", "_law_two"] (ct_law_told K)) (F_law_pair : Fn P w K mg base 6 (He.ga K "_law_pair") ["_law_parts", "_law_wanted"] (ct_law_pair K)) (F_law_right_side : Fn P w K mg base 6 (He.ga K "_law_right_side") ["_law_parts", "_law_pair_here", "_law_side"] (ct_law_right_side K)) (F_law_right_round : Fn P w K mg base 12 (He.ga K "_law_right_round") ["_law_parts", "_law_other", "_law_wanted", "_law_told_here"] (ct_law_right_round K)) (F : FunD K "law" "law" (defArgs s_law) (defBody s_law) (defScope s_law) [] [] (He.ga K "law") fd) : FnOk P w K mg base (L2.CX P w) 20 (He.ga K "law") fd ["_law_script"] (spC K (ct_law K)) := by
  refine fn_okF F sc_law (fun _ _ _ _ _ _ us hl => match us, hl with | [_], _ => rfl) ct1_len (fun cdv A outer s H E hr => ⟨_, (pss_cons (ps_set (i := 1) sc_law.nd rfl (by first | exact Or.inl rfl | exact Or.inr rfl) (pe_call (F_law_pool.up (by decide)).ok hr rfl T.g_law_pool.1 T.g_law_pool.2 (F_law_pool.up (by decide)).bn .nil (pass_own rfl rfl rfl rfl) (pa_cons (pe_call (F_law_cell.up (by decide)).ok hr rfl T.g_law_cell.1 T.g_law_cell.2 (F_law_cell.up (by decide)).bn .nil (pass_own rfl rfl rfl rfl) (pa_cons (pv 0) (pa_cons pe_int pa_nil))) pa_nil)))
      (pss_cons (ps_set (i := 2) sc_law.nd rfl (by first | exact Or.inl rfl | exact Or.inr rfl) (pe_call (F_law_many.up (by decide)).ok hr rfl T.g_law_many.1 T.g_law_many.2 (F_law_many.up (by decide)).bn .nil (pass_own rfl rfl rfl rfl) (pa_cons (pv 1) (pa_cons (pe_op op_addU pe_int (pe_call (F_law_take.up (by decide)).ok hr rfl T.g_law_take.1 T.g_law_take.2 (F_law_take.up (by decide)).bn .nil (pass_own rfl rfl rfl rfl) (pa_cons (pv 1) (pa_cons pe_int pa_nil)))) pa_nil))))
      (pss_cons (ps_for (passes_of rfl) rfl (pi_range1 rfl T.n_range (pa_cons pe_int pa_nil)) (pg_name (i := 3) sc_law.nd rfl (by first | exact Or.inl rfl | exact Or.inr rfl)) (pss_cons (ps_set (i := 4) sc_law.nd rfl (by first | exact Or.inl rfl | exact Or.inr rfl) (pe_call (F_law_pool.up (by decide)).ok hr rfl T.g_law_pool.1 T.g_law_pool.2 (F_law_pool.up (by decide)).bn .nil (pass_own rfl rfl rfl rfl) (pa_cons (pe_op op_addU (pe_call (F_law_cell.up (by decide)).ok hr rfl T.g_law_cell.1 T.g_law_cell.2 (F_law_cell.up (by decide)).bn .nil (pass_own rfl rfl rfl rfl) (pa_cons (pv 0) (pa_cons (pe_op op_addU pe_int (pv 3)) pa_nil))) (pv 3)) pa_nil)))
      (pss_cons (ps_set (i := 5) sc_law.nd rfl (by first | exact Or.inl rfl | exact Or.inr rfl) (pe_call (F_law_loose_net.up (by decide)).ok hr rfl T.g_law_loose_net.1 T.g_law_loose_net.2 (F_law_loose_net.up (by decide)).bn .nil (pass_own rfl rfl rfl rfl) (pa_cons (pv 4) (pa_cons (pe_call (F_law_many.up (by decide)).ok hr rfl T.g_law_many.1 T.g_law_many.2 (F_law_many.up (by decide)).bn .nil (pass_own rfl rfl rfl rfl) (pa_cons (pv 4) (pa_cons (pe_op op_addU pe_int (pe_call (F_law_take.up (by decide)).ok hr rfl T.g_law_take.1 T.g_law_take.2 (F_law_take.up (by decide)).bn .nil (pass_own rfl rfl rfl rfl) (pa_cons (pv 4) (pa_cons pe_int pa_nil)))) pa_nil))) (pa_cons (pv 2) pa_nil)))))
      (pss_cons (ps_set (i := 6) sc_law.nd rfl (by first | exact Or.inl rfl | exact Or.inr rfl) (pe_call (F_law_loose_net.up (by decide)).ok hr rfl T.g_law_loose_net.1 T.g_law_loose_net.2 (F_law_loose_net.up (by decide)).bn .nil (pass_own rfl rfl rfl rfl) (pa_cons (pv 4) (pa_cons (pe_call (F_law_many.up (by decide)).ok hr rfl T.g_law_many.1 T.g_law_many.2 (F_law_many.up (by decide)).bn .nil (pass_own rfl rfl rfl rfl) (pa_cons (pv 4) (pa_cons (pe_op op_addU pe_int (pe_call (F_law_take.up (by decide)).ok hr rfl T.g_law_take.1 T.g_law_take.2 (F_law_take.up (by decide)).bn .nil (pass_own rfl rfl rfl rfl) (pa_cons (pv 4) (pa_cons pe_int pa_nil)))) pa_nil))) (pa_cons (pe_revL (pv 2)) pa_nil)))))
      (pss_cons (ps_set (i := 8) sc_law.nd rfl (by first | exact Or.inl rfl | exact Or.inr rfl) (pe_call (F_law_in_order.up (by decide)).ok hr rfl T.g_law_in_order.1 T.g_law_in_order.2 (F_law_in_order.up (by decide)).bn .nil (pass_own rfl rfl rfl rfl) (pa_cons (pv 5) (pa_cons (pe_lc (te := (tOp (rIx K) (tVar 2) (tCall (spC K (ct_law_take K)) [] (fun _ _ _ => False) (tCons (tVar 4) (tCons (tCB (rLenU K) (tCons (tVar 2) tNil)) tNil))))) (tt := tYes) (own := [("_law_k", 7)]) rfl sc_law.nd (pi_range1 rfl T.n_range (pa_cons pe_int pa_nil)) (blk_ok ["_law_script", "_law_pool_here", "_law_lanes_here", "_law_turn", "_law_some", "_law_parts", "_law_other", "_law_k", "_law_wanted", "_law_more", "_law_one", "_law_two", "_law_lane", "_law_lacks", "_law_kind", "_law_net", "_law_bare", "_law_pair_here", "_law_told_here"] (defScope s_law) rfl rfl (by decide +kernel)) (fun _ _ _ _ _ => (pg_name (i := 7) sc_law.nd rfl (by first | exact Or.inl rfl | exact Or.inr rfl))) (fun _ _ _ _ _ => pts_nil) (fun _ _ _ _ _ => (pe_ix ix_seq (pv 2) (pe_call (F_law_take.up (by decide)).ok hr rfl T.g_law_take.1 T.g_law_take.2 (F_law_take.up (by decide)).bn .nil passes_no (pa_cons (pv 4) (pa_cons (pe_callB call_lenU rfl T.n_len (by decide +kernel) (pa_cons (pv 2) pa_nil)) pa_nil))) fun _ _ => rfl))) pa_nil))))
      (pss_cons (ps_set (i := 9) sc_law.nd rfl (by first | exact Or.inl rfl | exact Or.inr rfl) (pe_call (F_law_in_order.up (by decide)).ok hr rfl T.g_law_in_order.1 T.g_law_in_order.2 (F_law_in_order.up (by decide)).bn .nil (pass_own rfl rfl rfl rfl) (pa_cons (pv 6) (pa_cons (pe_lc (te := (tOp (rIx K) (tVar 2) (tCall (spC K (ct_law_take K)) [] (fun _ _ _ => False) (tCons (tVar 4) (tCons (tCB (rLenU K) (tCons (tVar 2) tNil)) tNil))))) (tt := tYes) (own := [("_law_k", 7)]) rfl sc_law.nd (pi_range1 rfl T.n_range (pa_cons pe_int pa_nil)) (blk_ok ["_law_script", "_law_pool_here", "_law_lanes_here", "_law_turn", "_law_some", "_law_parts", "_law_other", "_law_k", "_law_wanted", "_law_more", "_law_one", "_law_two", "_law_lane", "_law_lacks", "_law_kind", "_law_net", "_law_bare", "_law_pair_here", "_law_told_here"] (defScope s_law) rfl rfl (by decide +kernel)) (fun _ _ _ _ _ => (pg_name (i := 7) sc_law.nd rfl (by first | exact Or.inl rfl | exact Or.inr rfl))) (fun _ _ _ _ _ => pts_nil) (fun _ _ _ _ _ => (pe_ix ix_seq (pv 2) (pe_call (F_law_take.up (by decide)).ok hr rfl T.g_law_take.1 T.g_law_take.2 (F_law_take.up (by decide)).bn .nil passes_no (pa_cons (pv 4) (pa_cons (pe_callB call_lenU rfl T.n_len (by decide +kernel) (pa_cons (pv 2) pa_nil)) pa_nil))) fun _ _ => rfl))) pa_nil))))
      (pss_cons (ps_set (i := 10) sc_law.nd rfl (by first | exact Or.inl rfl | exact Or.inr rfl) (pe_make T.mk_Asked (F_Asked___init.up (by decide)).ok hr rfl T.g_Asked.1 (F_Asked___init.up (by decide)).bn .nil (pass_own rfl rfl rfl rfl) (pa_cons (pe_call (F_law_built.up (by decide)).ok hr rfl T.g_law_built.1 T.g_law_built.2 (F_law_built.up (by decide)).bn .nil (pass_own rfl rfl rfl rfl) (pa_cons (pv 5) pa_nil)) (pa_cons (pv 8) pa_nil))))
      (pss_cons (ps_set (i := 11) sc_law.nd rfl (by first | exact Or.inl rfl | exact Or.inr rfl) (pe_make T.mk_Asked (F_Asked___init.up (by decide)).ok hr rfl T.g_Asked.1 (F_Asked___init.up (by decide)).bn .nil (pass_own rfl rfl rfl rfl) (pa_cons (pe_call (F_law_built.up (by decide)).ok hr rfl T.g_law_built.1 T.g_law_built.2 (F_law_built.up (by decide)).bn .nil (pass_own rfl rfl rfl rfl) (pa_cons (pv 6) pa_nil)) (pa_cons (pv 9) pa_nil))))
      (pss_cons (ps_set (i := 13) sc_law.nd rfl (by first | exact Or.inl rfl | exact Or.inr rfl) (pe_op op_addU (pe_lc (te := (tVar 12)) (tt := (tTest (tOp (rNiU K) (tVar 12) (tVar 9)))) (own := [("_law_lane", 12)]) rfl sc_law.nd (pi_seq (pv 8)) (blk_ok ["_law_script", "_law_pool_here", "_law_lanes_here", "_law_turn", "_law_some", "_law_parts", "_law_other", "_law_k", "_law_wanted", "_law_more", "_law_one", "_law_two", "_law_lane", "_law_lacks", "_law_kind", "_law_net", "_law_bare", "_law_pair_here", "_law_told_here"] (defScope s_law) rfl rfl (by decide +kernel)) (fun _ _ _ _ _ => (pg_name (i := 12) sc_law.nd rfl (by first | exact Or.inl rfl | exact Or.inr rfl))) (fun _ _ _ _ _ => (pts_one (pt_cmpR op_niU (pv 12) (pv 9) (by with_unfolding_all rfl)))) (fun _ _ _ _ _ => (pv 12))) (pe_lc (te := (tVar 12)) (tt := (tTest (tOp (rNiU K) (tVar 12) (tVar 8)))) (own := [("_law_lane", 12)]) rfl sc_law.nd (pi_seq (pv 9)) (blk_ok ["_law_script", "_law_pool_here", "_law_lanes_here", "_law_turn", "_law_some", "_law_parts", "_law_other", "_law_k", "_law_wanted", "_law_more", "_law_one", "_law_two", "_law_lane", "_law_lacks", "_law_kind", "_law_net", "_law_bare", "_law_pair_here", "_law_told_here"] (defScope s_law) rfl rfl (by decide +kernel)) (fun _ _ _ _ _ => (pg_name (i := 12) sc_law.nd rfl (by first | exact Or.inl rfl | exact Or.inr rfl))) (fun _ _ _ _ _ => (pts_one (pt_cmpR op_niU (pv 12) (pv 8) (by with_unfolding_all rfl)))) (fun _ _ _ _ _ => (pv 12)))))
      (pss_cons (ps_for (passes_of rfl) rfl (pi_range1 rfl T.n_range (pa_cons pe_int pa_nil)) (pg_name (i := 14) sc_law.nd rfl (by first | exact Or.inl rfl | exact Or.inr rfl)) (pss_one (ps_if (PW.pt (pw_and (pt_cmpR (op_neP (by have := (hr).units; exact this)) (pv 13) (pe_lst pa_nil) (nomark _)) (pw_and1 (pt_cmpR (op_neP (by have := (hr).units; exact this)) (pe_call (F_law_told.up (by decide)).ok hr rfl T.g_law_told.1 T.g_law_told.2 (F_law_told.up (by decide)).bn .nil (pass_own rfl rfl rfl rfl) (pa_cons (pv 14) (pa_cons (pv 10) (pa_cons (pv 11) pa_nil)))) (pe_tup (pa_cons pe_str (pa_cons (pe_ix ix_seq (pv 13) pe_int fun _ _ => rfl) pa_nil))) (nomark _)))))
      (pss_one (ps_ret pe_bl))
      pss_nil)))
      (pss_cons (ps_set (i := 11) sc_law.nd rfl (by first | exact Or.inl rfl | exact Or.inr rfl) (pe_make T.mk_Asked (F_Asked___init.up (by decide)).ok hr rfl T.g_Asked.1 (F_Asked___init.up (by decide)).bn .nil (pass_own rfl rfl rfl rfl) (pa_cons (pe_call (F_law_built.up (by decide)).ok hr rfl T.g_law_built.1 T.g_law_built.2 (F_law_built.up (by decide)).bn .nil (pass_own rfl rfl rfl rfl) (pa_cons (pv 6) pa_nil)) (pa_cons (pv 8) pa_nil))))
      (pss_cons (ps_setLc (i := 16) (te := (tVar 15)) (tt := (tTest (tOp rIsN (tCall (spC K (ct_law_held_part K)) [] (fun _ _ _ => False) (tCons (tVar 15) (tCons (tCB (rLstU K) (tCons (tVar 8) tNil)) tNil))) (tC .non)))) (own := [("_law_net", 15)]) rfl sc_law.nd rfl rfl rfl (pi_seq (pe_tup (pa_cons (pv 5) (pa_cons (pv 6) pa_nil)))) (blk_ok ["_law_script", "_law_pool_here", "_law_lanes_here", "_law_turn", "_law_some", "_law_parts", "_law_other", "_law_k", "_law_wanted", "_law_more", "_law_one", "_law_two", "_law_lane", "_law_lacks", "_law_kind", "_law_net", "_law_bare", "_law_pair_here", "_law_told_here"] (defScope s_law) rfl rfl (by decide +kernel)) (fun _ _ _ _ _ => (pg_name (i := 15) sc_law.nd rfl (by first | exact Or.inl rfl | exact Or.inr rfl))) (fun _ _ _ _ _ => (pts_one (pt_cmpR op_isN1 (pe_call (F_law_held_part.up (by decide)).ok hr rfl T.g_law_held_part.1 T.g_law_held_part.2 (F_law_held_part.up (by decide)).bn .nil passes_no (pa_cons (pv 15) (pa_cons (pe_callTy call_lstU rfl T.n_list (by decide +kernel) (pa_cons (pv 8) pa_nil)) pa_nil))) pe_non (nomark _)))) (fun _ _ _ _ _ => (pv 15)))
      (pss_one (ps_if (pt_cmpR (op_neP (by have := (hr).units; exact this)) (pv 16) (pe_lst pa_nil) (nomark _))
      (pss_cons (ps_if (pt_not (pt_val (pe_call (F_law_right_round.up (by decide)).ok hr rfl T.g_law_right_round.1 T.g_law_right_round.2 (F_law_right_round.up (by decide)).bn .nil (pass_own rfl rfl rfl rfl) (pa_cons (pv 5) (pa_cons (pv 6) (pa_cons (pe_callTy call_lstU rfl T.n_list (by decide +kernel) (pa_cons (pv 8) pa_nil)) (pa_cons (pe_call (F_law_told.up (by decide)).ok hr rfl T.g_law_told.1 T.g_law_told.2 (F_law_told.up (by decide)).bn .nil (pass_own rfl rfl rfl rfl) (pa_cons pe_int (pa_cons (pv 10) (pa_cons (pv 11) pa_nil)))) pa_nil)))))))
      (pss_one (ps_ret pe_bl))
      pss_nil)
      (pss_cons (ps_set (i := 17) sc_law.nd rfl (by first | exact Or.inl rfl | exact Or.inr rfl) (pe_call (F_law_pair.up (by decide)).ok hr rfl T.g_law_pair.1 T.g_law_pair.2 (F_law_pair.up (by decide)).bn .nil (pass_own rfl rfl rfl rfl) (pa_cons (pe_ix ix_seq (pv 16) pe_int fun _ _ => rfl) (pa_cons (pe_call (F_law_in_order.up (by decide)).ok hr rfl T.g_law_in_order.1 T.g_law_in_order.2 (F_law_in_order.up (by decide)).bn .nil (pass_own rfl rfl rfl rfl) (pa_cons (pe_ix ix_seq (pv 16) pe_int fun _ _ => rfl) (pa_cons (pv 8) pa_nil))) pa_nil))))
      (pss_cons (ps_set (i := 18) sc_law.nd rfl (by first | exact Or.inl rfl | exact Or.inr rfl) (pe_call (F_law_told.up (by decide)).ok hr rfl T.g_law_told.1 T.g_law_told.2 (F_law_told.up (by decide)).bn .nil (pass_own rfl rfl rfl rfl) (pa_cons pe_int (pa_cons (pv 10) (pa_cons (pv 11) pa_nil)))))
      (pss_one (ps_if (PW.pt (pw_or (pt_cmpR (op_neP (by have := (hr).units; exact this)) (pe_slice sl_U (pv 18) po_none (po_some pe_int)) (pe_tup (pa_cons pe_str (pa_cons (pv 17) pa_nil))) (nomark _)) (pw_or1 (pt_not (pt_val (pe_call (F_law_right_side.up (by decide)).ok hr rfl T.g_law_right_side.1 T.g_law_right_side.2 (F_law_right_side.up (by decide)).bn .nil (pass_own rfl rfl rfl rfl) (pa_cons (pe_ix ix_seq (pv 16) pe_int fun _ _ => rfl) (pa_cons (pv 17) (pa_cons (pe_ix ix_seq (pv 18) pe_int fun _ _ => rfl) pa_nil)))))))))
      (pss_one (ps_ret pe_bl))
      pss_nil)))))
      pss_nil))))))))))))))
      (pss_one (ps_ret pe_bl))))), fun ws ka out B F0 Q hC hR hX => ?_⟩)
  obtain ⟨s0, rfl, zs, hs0, rfl, rfl⟩ := hC
  refine q_asgN (evn_callP (ea1 (ev_callP (ea2 (ev_var rfl) ev_int) ⟨_, _, rfl, zs, 0, hs0, rfl, rfl, rfl⟩)) ⟨_, rfl, _, rfl, rfl, rfl⟩) (fun a => ?_)
  have hpz := plOf_ok (zs.getD 0 0)
  generalize plOf (zs.getD 0 0) = pz at *
  have t6 := tk_lt pz (m := 6) (by decide)
  have o6 := tk_ok hpz (m := 6) (by decide)
  refine q_call (kr := []) (k1 := [(a, .lst (tk pz 6).2.ds)]) (ea2 (ev_var rfl) (ev_addI ev_int (ev_take (kr := []) (ev_var rfl) ev_int (hpz.up (by decide)) (by decide) (by decide)))) ⟨_, _, rfl, a, (tk pz 6).2, _, 1 + (tk pz 6).1, rfl, rfl, rfl, o6, by omega, by decide, by omega, by omega, rfl⟩ (fun o k ⟨ss, p', h, _⟩ => ⟨_, h⟩) ?_
  rintro _ _ ⟨ls, p1, e, rfl, hp1, hll0, hlm, hld⟩
  cases e
  refine Gp.less (k1 := []) ?_ (List.nil_sublist _)
  have hll : 0 < ls.length ∧ ls.length ≤ 6 := by omega
  clear hll0 hp1 o6 t6
  have lne : ls ≠ [] := fun z => by rw [z] at hll; exact absurd hll.1 (by decide)
  refine q_forn (ei_range1 (ea1 ev_int) (by decide) (by decide)) (fun i ro ka => ∃ (v3 v4 v5 v6 v7 v8 v9 v10 v11 v12 v13 v14 v15 v16 v17 v18 : Option W), ro = [some s0, some (.val (.adr a)), some (.val (.lst (stD ls))), v3, v4, v5, v6, v7, v8, v9, v10, v11, v12, v13, v14, v15, v16, v17, v18] ∧ ka = []) ⟨_, _, _, _, _, _, _, _, _, _, _, _, _, _, _, _, rfl, rfl⟩ (fun i ro ka _ => trivial) (fun i w' ro2 ka2 ta' hw ⟨v3, v4, v5, v6, v7, v8, v9, v10, v11, v12, v13, v14, v15, v16, v17, v18, e1, e2⟩ => ?_) (fun ro2 ka2 ta' ⟨v3, v4, v5, v6, v7, v8, v9, v10, v11, v12, v13, v14, v15, v16, v17, v18, e1, e2⟩ _ => ?_)
  rotate_left
  · subst e1 e2
    exact g_ret hR ev_bl ⟨rfl, rfl⟩
  subst e1 e2
  rw [List.getElem?_map] at hw
  obtain ⟨i', hi', rfl⟩ := Option.map_eq_some_iff.mp hw
  refine q_asgN (evn_callP (ea1 (ev_addI (ev_callP (ea2 (ev_var rfl) (ev_addI ev_int (ev_var rfl))) ⟨_, _, rfl, zs, 1 + i', hs0, by push_cast; rfl, rfl, rfl⟩) (ev_var rfl))) ⟨_, rfl, _, rfl, rfl, rfl⟩) (fun b => ?_)
  generalize zs.getD (1 + i') 0 + (i' : Int) = z
  have hqz := plOf_ok z
  generalize plOf z = qz at *
  refine q_asgR (evr_lose (b := b) (p := qz) (ls := ls) (fun p' => ev_var rfl) (fun p' => ev_var rfl) hqz (by decide) (by decide) (by omega) hld hlm) ?_
  rintro _ _ ⟨ps, es, q1, rfl, rfl, hq1, ok1, hes, hpl⟩
  have rls : stD ls.reverse = (stD ls).reverse := List.map_reverse
  have ndr : ls.reverse.Nodup := List.pairwise_reverse.mpr (hld.imp fun h => Ne.symm h)
  refine q_asgR (evr_lose (b := b) (p := q1) (ls := ls.reverse) (fun p' => ev_var rfl) (fun p' => (evn_revL (ds := stD ls) (ev_var rfl) .vl (.inl rfl)).lst.to (by rw [rls])) hq1 (by decide) (by decide) (by rw [List.length_reverse]; omega) ndr (fun l hl => hlm l (List.mem_reverse.mp hl))) ?_
  rintro _ _ ⟨qs, fs, q2, rfl, rfl, hq2, ok2, hfs, hql⟩
  have el1 : es.length ≤ 6 := by rw [← lnN_len, hes]; exact hll.2
  have el2 : fs.length ≤ 6 := by rw [← lnN_len, hfs, List.length_reverse]; exact hll.2
  refine q_asgR (evr_io (ps := ps) (es := es) (R := fun ws k => ∃ p' : Pl, k = [(b, .lst p'.ds)] ∧ p'.Ok 400 ∧ ws ≠ [] ∧ ∀ w ∈ ws, w ∈ ls) (ev_var rfl) (EvR.imp (EvNR.lstR (evr_lc (ei_range1 (m := 3) (ea1 ev_int) (by decide) (by decide)) (by decide) (by decide) (fun i acc k => ∃ ss p', acc = stD ss ∧ k = [(b, .lst (Pl.ds p'))] ∧ p'.Ok (320 + i) ∧ ss.length = i ∧ ∀ s ∈ ss, s ∈ ls) ⟨[], _, rfl, rfl, hq2.up (by omega), rfl, fun s h => by cases h⟩ (fun i acc k _ => ⟨trivial, fun _ => trivial⟩) (fun i w acc k hw ⟨ss, p', e1, e2, hp', hl2, hs⟩ => ?d1)) (fun n k ⟨acc, e, _⟩ => ⟨acc, e⟩)) fun w k h => ?d2) (by omega)) ?_
  case d1 =>
    subst e1 e2
    have hi : i < 3 := (List.getElem?_eq_some_iff.mp hw).1
    refine .inr ⟨_, _, _, et_yes, ev_draw (kr := []) (ev_var rfl) (ev_var rfl) (ev_var rfl) (hp'.up (by omega)) lne (by omega), ss ++ [drawS p' ls], drawP p' ls, (stD_app _ [_]), rfl, (drawP_ok hp' lne).up (by push_cast; omega), by rw [List.length_append, hl2]; rfl, fun s h => ?_⟩
    rcases List.mem_append.mp h with h | h
    · exact hs s h
    · rw [List.mem_singleton.mp h]; exact drawS_mem lne p'
  case d2 =>
    obtain ⟨ds, ⟨acc, e0, ss, p', e1, e2, hp', hl2, hs⟩, e3⟩ := h
    cases e0
    subst e1
    exact ⟨ss, e3, p', e2, hp'.up (by decide), fun z => (by rw [z] at hl2; cases hl2), hs⟩
  rintro _ _ ⟨ss, rfl, q3, rfl, hq3, ssne, hss⟩
  refine q_asgR (evr_io (ps := qs) (es := fs) (R := fun ws k => ∃ p' : Pl, k = [(b, .lst p'.ds)] ∧ p'.Ok 500 ∧ ws ≠ [] ∧ ∀ w ∈ ws, w ∈ ls) (ev_var rfl) (EvR.imp (EvNR.lstR (evr_lc (ei_range1 (m := 2) (ea1 ev_int) (by decide) (by decide)) (by decide) (by decide) (fun i acc k => ∃ ss p', acc = stD ss ∧ k = [(b, .lst (Pl.ds p'))] ∧ p'.Ok (400 + i) ∧ ss.length = i ∧ ∀ s ∈ ss, s ∈ ls) ⟨[], _, rfl, rfl, hq3.up (by omega), rfl, fun s h => by cases h⟩ (fun i acc k _ => ⟨trivial, fun _ => trivial⟩) (fun i w acc k hw ⟨ss, p', e1, e2, hp', hl2, hs⟩ => ?d1)) (fun n k ⟨acc, e, _⟩ => ⟨acc, e⟩)) fun w k h => ?d2) (by omega)) ?_
  case d1 =>
    subst e1 e2
    have hi : i < 2 := (List.getElem?_eq_some_iff.mp hw).1
    refine .inr ⟨_, _, _, et_yes, ev_draw (kr := []) (ev_var rfl) (ev_var rfl) (ev_var rfl) (hp'.up (by omega)) lne (by omega), ss ++ [drawS p' ls], drawP p' ls, (stD_app _ [_]), rfl, (drawP_ok hp' lne).up (by push_cast; omega), by rw [List.length_append, hl2]; rfl, fun s h => ?_⟩
    rcases List.mem_append.mp h with h | h
    · exact hs s h
    · rw [List.mem_singleton.mp h]; exact drawS_mem lne p'
  case d2 =>
    obtain ⟨ds, ⟨acc, e0, ss, p', e1, e2, hp', hl2, hs⟩, e3⟩ := h
    cases e0
    subst e1
    exact ⟨ss, e3, p', e2, hp'.up (by decide), fun z => (by rw [z] at hl2; cases hl2), hs⟩
  rintro _ _ ⟨tt, rfl, q4, rfl, hq4, ttne, htt⟩
  refine Gp.less (k1 := []) ?_ (List.nil_sublist _)
  obtain ⟨gr, eg, S0⟩ := side_of ok1 hpl el1 ssne (fun w hw => by rw [hes]; exact hss w hw)
  obtain ⟨hr, eh, T0⟩ := side_of ok2 hql el2 ttne (fun w hw => by rw [hfs]; exact List.mem_reverse.mpr (htt w hw))
  rw [eg, eh]
  have S : Side ps es gr (lnN gr) := ⟨S0.ok, S0.pl, S0.el, S0.gne, S0.sub, S0.go, fun _ => Iff.rfl⟩
  have gw2 : ∀ w ∈ lnN gr, w ∈ lnN fs := fun w hw => by
    have := S.wes w hw
    rw [hes] at this
    rw [hfs]
    exact List.mem_reverse.mpr this
  obtain ⟨h2, eh2, S2⟩ := side_of ok2 hql el2 S.lne gw2
  refine q_asg (w := .val (AskD K ps es (lnN gr))) ((ev_askedB (t := true) (ev_built (ev_var rfl) ok1) (ev_var rfl) ok1 S.lne S.wes).to (by rw [S.go])) ?_
  refine q_asg (w := .val (AskD K qs fs (lnN hr))) ((ev_askedB (t := true) (ev_built (ev_var rfl) ok2) (ev_var rfl) ok2 T0.lne T0.wes).to (by rw [T0.go])) ?_
  have gl1 := S.gl
  have gl2 := T0.gl
  refine q_asg (w := .val (.lst (stD (lackL (lnN gr) (lnN hr))))) ((evn_op (evn_filt (xs := lnN gr) (g := fun s => W.val (.str s)) (f := fun s => D.str s) (p := fun s => !decide (s ∈ lnN hr)) (ei_strsL (ev_var rfl) .vt) (by decide) (by omega) ⟨trivial, fun _ => trivial⟩ (fun s hs => et_test (ev_niL (ev_var rfl) (ev_var rfl) .vt)) (fun s hs _ => ev_var rfl)).lst (evn_filt (xs := lnN hr) (g := fun s => W.val (.str s)) (f := fun s => D.str s) (p := fun s => !decide (s ∈ lnN gr)) (ei_strsL (ev_var rfl) .vt) (by decide) (by omega) ⟨trivial, fun _ => trivial⟩ (fun s hs => et_test (ev_niL (ev_var rfl) (ev_var rfl) .vt)) (fun s hs _ => ev_var rfl)).lst (rvn_cat (b1 := false) (b2 := false) .vl .vl ?hlen)).lst.to (congrArg (fun z => W.val (.lst z)) (by unfold lackL stD; rw [List.map_append]))) ?_
  case hlen =>
    have a1 := List.length_filter_le (fun s => !decide (s ∈ lnN hr)) (lnN gr)
    have a2 := List.length_filter_le (fun s => !decide (s ∈ lnN gr)) (lnN hr)
    rw [List.length_map, List.length_map]
    omega
  refine q_forn (ei_range1 (ea1 ev_int) (by decide) (by decide)) (fun j ro ka => ∃ (v14 : Option W), ro = [some s0, some (.val (.adr a)), some (.val (.lst (stD ls))), some (.val (.int (i' : Int))), some (.val (.adr b)), some (.val (PtD ps es)), some (.val (PtD qs fs)), v7, some (.val (.tup (stD (lnN gr)))), some (.val (.tup (stD (lnN hr)))), some (.val (AskD K ps es (lnN gr))), some (.val (AskD K qs fs (lnN hr))), v12, some (.val (.lst (stD (lackL (lnN gr) (lnN hr))))), v14, v15, v16, v17, v18] ∧ ka = []) ⟨_, rfl, rfl⟩ (fun _ _ _ _ => trivial) (fun j w' ro2 ka2 ta2 hw2 ⟨v14, e1, e2⟩ => ?one) (fun ro2 ka2 ta2 ⟨v14, e1, e2⟩ hta => ?two)
  case one =>
    subst e1 e2
    rw [List.getElem?_map] at hw2
    obtain ⟨j', hj', rfl⟩ := Option.map_eq_some_iff.mp hw2
    have hj2 : j' < 2 := List.mem_range.mp (List.mem_of_getElem? hj')
    have lh := lack_head (lnN gr) (lnN hr)
    cases hk : lackL (lnN gr) (lnN hr) with
    | nil => exact g_if (b := false) (et_and0 ((et_test (ev_ne (d := .lst []) (e := .lst []) (ev_var rfl) (evn_lst (ds := []) ea_nil (by decide)).lst .v .v rfl rfl)).to rfl)) (fun z => by cases z) (fun _ => g_next (g_jp ⟨_, rfl, rfl⟩))
    | cons x lt =>
      rw [hk] at lh
      have tld : ct_law_told K [.val (.int (j' : Int)), .val (AskD K ps es (lnN gr)), .val (AskD K qs fs (lnN hr))] [] (Rt (.tup [.str "NoLane", .str x]) []) := by
        refine ⟨_, _, _, rfl, j', Xt (He.ga K "NoLane") [("name", .str x)] [], rfl, rfl, ?_, .inr (.inl ⟨_, rfl, rfl⟩)⟩
        rcases (by omega : j' = 0 ∨ j' = 1) with h | h
        · exact .inl ⟨h, _, _, rfl, ps, es, lnN gr, qs, fs, lnN hr, rfl, rfl, S.ask, T0.ask, rfl, .inl ⟨x, lh, rfl⟩⟩
        · exact .inr ⟨h, _, _, rfl, ps, es, gr, qs, fs, hr, rfl, rfl, S.ask, T0.ask, rfl, .inl ⟨x, lh, rfl⟩⟩
      refine g_if (b := false) (et_and1 ((et_test (ev_ne (d := .lst (stD (x :: lt))) (e := .lst []) (ev_var rfl) (evn_lst (ds := []) ea_nil (by decide)).lst .v .v (pl_stD _ 60) rfl)).to (b := true) rfl) ((et_test (ev_ne (d := .tup [.str "NoLane", .str x]) (e := .tup [.str "NoLane", .str x]) (ev_callP (ea3 (ev_var rfl) (ev_var rfl) (ev_var rfl)) tld) (ev_tup (ds := [.str "NoLane", .str x]) (ea2 ev_str (ev_ixV (d := .str x) (ev_var rfl) ev_int .vl (atI_nat (j := 0) rfl))) (show 2 ≤ 100000 by decide)) .v .v rfl rfl)).to (by rw [eqD_refl 61 _ rfl]; rfl))) (fun z => by cases z) (fun _ => g_next (g_jp ⟨_, rfl, rfl⟩))
  case two =>
  subst e1 e2
  refine q_asg (w := .val (AskD K qs fs (lnN h2))) ((ev_askedB (t := true) (ev_built (ev_var rfl) ok2) (ev_var rfl) ok2 S.lne gw2).to (by rw [eh2])) ?_
  have lsW : ∀ {ro : Ro}, ro[8]? = some (some (.val (.tup (stD (lnN gr))))) → EvD K (tCB (rLstU K) (tCons (tVar 8) tNil)) ro [] (.val (.lst (stD (lnN gr)))) [] := fun h => (evn_cb (ea1 (ev_var h)) (rcn_lst .vt (sqf_stD _ _))).lst
  have bEq : ∀ x ∈ [(ps, es), (qs, fs)], PtOk x.1 x.2 := fun x hx => by
    rcases List.mem_cons.mp hx with rfl | hx
    · exact ok1
    · rw [List.mem_singleton.mp hx]; exact ok2
  refine q_asg (w := .val (.lst (([(ps, es), (qs, fs)].filter fun y : List Str × List Ln => !heB y.2 (lnN gr)).map fun y : List Str × List Ln => PtD y.1 y.2))) (evn_filt (xs := [(ps, es), (qs, fs)]) (g := fun x => W.val (PtD x.1 x.2)) (f := fun x => PtD x.1 x.2) (p := fun y : List Str × List Ln => !heB y.2 (lnN gr)) (ei_seq (ds := [PtD ps es, PtD qs fs]) (ev_tup (ds := [PtD ps es, PtD qs fs]) (ea2 (ev_var rfl) (ev_var rfl)) (show 2 ≤ 100000 by decide)) .vt) (by decide) (Nat.le_of_ble_eq_true rfl) ⟨trivial, fun _ => trivial⟩ (fun x hx => (et_test (ev_isN (d := hpD x.1 x.2 (lnN gr)) (ev_callP (ea2 (ev_var rfl) (lsW rfl)) ⟨_, _, rfl, x.1, x.2, lnN gr, rfl, rfl, bEq x hx, S.lne, by omega, rfl, rfl⟩) (.inl rfl))).to (hpD_non (bEq x hx) S.lne)) (fun x hx _ => ev_var rfl)).lst ?_
  by_cases hb : heB es (lnN gr) = true ∧ heB fs (lnN gr) = true
  · have e0 : ([(ps, es), (qs, fs)].filter fun y => !heB y.2 (lnN gr)) = [] := by simp [hb.1, hb.2]
    rw [e0]
    exact g_if (b := false) ((et_test (ev_ne (d := .lst []) (e := .lst []) (ev_var rfl) (evn_lst (ds := []) ea_nil (by decide)).lst .v .v rfl rfl)).to rfl) (fun z => by cases z) (fun _ => g_next (g_jpH hta ⟨_, _, _, _, _, _, _, _, _, _, _, _, _, _, _, _, rfl, rfl⟩))
  obtain ⟨⟨d0, t0, r0⟩, p1, e1, g1, x, bt, ebl, S1, N, t1⟩ := two_told (K := K) S S2 hb
  rw [ebl]
  have plB : ∀ bs : List (List Str × List Ln), (bs.map fun y : List Str × List Ln => PtD y.1 y.2).all (pl 60) = true := fun bs => List.all_eq_true.mpr fun d hd => by
    obtain ⟨y, _, rfl⟩ := List.mem_map.mp hd
    refine List.all_eq_true.mpr fun d hd => ?_
    rcases List.mem_cons.mp hd with rfl | hd
    · exact pl_stD y.1 58
    · rw [List.mem_singleton.mp hd]
      exact List.all_eq_true.mpr fun d hd => by
        obtain ⟨r, _, rfl⟩ := List.mem_map.mp hd
        rfl
  refine g_if (b := true) ((et_test (ev_ne (d := .lst (((p1, e1) :: bt).map fun y : List Str × List Ln => PtD y.1 y.2)) (e := .lst []) (ev_var rfl) (evn_lst (ds := []) ea_nil (by decide)).lst .v .v (plB _) rfl)).to rfl) (fun _ => ?_) (fun z => by cases z)
  have i0 : ((0 : Nat) : Int) = 0 := rfl
  have i1 : ((1 : Nat) : Int) = 1 := rfl
  rw [i0] at t0
  rw [i1] at t1
  refine q_when (b := false) ((et_not (et_B (ev_callP (d := .bl true) (ea_cons (ev_var rfl) (ea3 (ev_var rfl) (lsW rfl) (ev_callP (d := d0) (ea3 ev_int (ev_var rfl) (ev_var rfl)) t0))) ⟨_, _, _, _, rfl, ps, es, qs, fs, lnN gr, rfl, rfl, rfl, ok1, ok2, S.lne, by omega, rfl, rfl, ?hrr⟩))).to rfl) (fun z => by cases z) (fun _ => ?_)
  case hrr =>
    rcases r0 with ⟨l, a1, a2, a3, a4⟩ | ⟨l, a1, a2, a3, a4, a5⟩ | ⟨a1, a2, a3⟩
    · exact .inl ⟨l, a1, by rw [a2], a3, a4⟩
    · exact .inr (.inl ⟨l, a1, a2, by rw [a3], a4, a5⟩)
    · exact .inr (.inr ⟨a1, a2, by rw [a3]⟩)
  have b0 : ∀ {ro : Ro}, ro[16]? = some (some (.val (.lst (((p1, e1) :: bt).map fun y : List Str × List Ln => PtD y.1 y.2)))) → EvD K (tOp (rIx K) (tVar 16) (tC (.int 0))) ro [] (.val (PtD p1 e1)) [] := fun h => ev_ixV (ev_var h) ev_int .vl (atI_nat (j := 0) rfl)
  have el3 := S1.el
  have pl3 := S1.pl
  have gl3 := S1.gl
  rw [lnN_len] at gl3
  have eg1 : goalL e1 (lnN gr) = lnN g1 := by
    rw [← S1.go]
    unfold goalL
    exact List.filter_congr fun l _ => decide_eq_decide.mpr (S1.same l).symm
  have np : noP e1 g1 = some x := N.at_
  obtain ⟨xr, xs, xb⟩ := noP_some np
  refine q_asg (w := .val (pairO (some x))) (ev_callP (ea2 (b0 rfl) (ev_callP (d := .tup (stD (lnN g1))) (ea2 (b0 rfl) (ev_var rfl)) ⟨_, _, rfl, p1, e1, lnN gr, true, rfl, .vt, by omega, rfl, by rw [eg1]⟩)) ⟨_, _, rfl, p1, e1, g1, rfl, rfl, S1.sub, S1.ok.st, S1.ok.ed, by omega, by omega, by omega, rfl, by rw [np]⟩) ?_
  refine q_asg (ev_callP (ea3 ev_int (ev_var rfl) (ev_var rfl)) t1) ?_
  refine g_if (b := false) (et_or0 ((et_test (ev_ne (d := .tup [.str "NoRound", .tup [.str x.1.1, .str x.2.1]]) (e := .tup [.str "NoRound", .tup [.str x.1.1, .str x.2.1]]) (ev_slT (ds := [.str "NoRound", .tup [.str x.1.1, .str x.2.1], .tup (stD (rchL p1 e1 x.1.2.2))]) (ev_var rfl) eo_none (eo_some ev_int)) (ev_tup (ds := [.str "NoRound", .tup [.str x.1.1, .str x.2.1]]) (ea2 ev_str (ev_var rfl)) (show 2 ≤ 100000 by decide)) .v .v rfl rfl)).to (by rw [eqD_refl 61 _ rfl]; rfl)) ((et_not (et_B (ev_callP (d := .bl true) (ea3 (b0 rfl) (ev_var rfl) (ev_ixV (ev_var rfl) ev_int .vt (atI_nat (j := 2) rfl))) ⟨_, _, _, rfl, p1, e1, x, rfl, rfl, rfl, S1.sub _ xr, S1.sub _ xs, xb, S1.ok.st, S1.ok.ed, by omega, by omega, rfl, rfl⟩))).to rfl)) (fun z => by cases z) (fun _ => g_next ?_)
  exact g_jpH hta ⟨_, _, _, _, _, _, _, _, _, _, _, _, _, _, _, _, rfl, rfl⟩
end
theorem tx_of {K : PySem.W.Frag} {mg : Str → Option Value} {h : Heap} (X : K.In h) (G : h.Ns mainGlobals mg) (c : SaysY exs dfs K) : Tx K mg where
  v_LETTERS := (let ⟨t, e⟩ := He.str_ok X G (c.fact 0 (f := fStr "LETTERS" "abcdefghijklmnopqrstuvwxyz")); ⟨_, e, t, rfl⟩)
  n_len := He.free_ok X G (c.fact 1 (f := fFree "len"))
  v_LONGEST := (let ⟨t, e⟩ := He.int_ok X G (c.fact 2 (f := fInt "LONGEST" 8)); ⟨_, e, t, rfl⟩)
  n_isinstance := He.free_ok X G (c.fact 3 (f := fFree "isinstance"))
  n_str := He.free_ok X G (c.fact 4 (f := fFree "str"))
  n_all := He.free_ok X G (c.fact 5 (f := fFree "all"))
  v_DIGITS := (let ⟨t, e⟩ := He.str_ok X G (c.fact 6 (f := fStr "DIGITS" "0123456789")); ⟨_, e, t, rfl⟩)
  n_bool := He.free_ok X G (c.fact 7 (f := fFree "bool"))
  n_int := He.free_ok X G (c.fact 8 (f := fFree "int"))
  x0_EmptyWalk := He.exc_ok (c.fact 9 (f := fX0 "EmptyWalk"))
  g_EmptyWalk := ⟨He.glo_ok X G (He.ba (c.fact 10 (f := fGlo "EmptyWalk"))).1, (He.ba (c.fact 10 (f := fGlo "EmptyWalk"))).2⟩
  g_is_name := ⟨He.glo_ok X G (He.ba (c.fact 11 (f := fGlo "is_name"))).1, (He.ba (c.fact 11 (f := fGlo "is_name"))).2⟩
  g_BadName := ⟨He.glo_ok X G (He.ba (c.fact 12 (f := fGlo "BadName"))).1, (He.ba (c.fact 12 (f := fGlo "BadName"))).2⟩
  n_list := He.free_ok X G (c.fact 13 (f := fFree "list"))
  t0_Net___init := t0_ok (c.fact 14 (f := fT0 ("Net", some "__init__") 0))
  n_tuple := He.free_ok X G (c.fact 15 (f := fFree "tuple"))
  g_NameTaken := ⟨He.glo_ok X G (He.ba (c.fact 16 (f := fGlo "NameTaken"))).1, (He.ba (c.fact 16 (f := fGlo "NameTaken"))).2⟩
  g_NoPost := ⟨He.glo_ok X G (He.ba (c.fact 17 (f := fGlo "NoPost"))).1, (He.ba (c.fact 17 (f := fGlo "NoPost"))).2⟩
  g_NoLane := ⟨He.glo_ok X G (He.ba (c.fact 18 (f := fGlo "NoLane"))).1, (He.ba (c.fact 18 (f := fGlo "NoLane"))).2⟩
  mk_Net := He.mkr_ok (c.fact 19 (f := fMkr "Net"))
  g_Net := ⟨He.glo_ok X G (He.ba (c.fact 20 (f := fGlo "Net"))).1, (He.ba (c.fact 20 (f := fGlo "Net"))).2⟩
  g_check_lanes := ⟨He.glo_ok X G (He.ba (c.fact 21 (f := fGlo "check_lanes"))).1, (He.ba (c.fact 21 (f := fGlo "check_lanes"))).2⟩
  mk_Round := He.mkr_ok (c.fact 22 (f := fMkr "Round"))
  g_Round := ⟨He.glo_ok X G (He.ba (c.fact 23 (f := fGlo "Round"))).1, (He.ba (c.fact 23 (f := fGlo "Round"))).2⟩
  g_law_take := ⟨He.glo_ok X G (He.ba (c.fact 24 (f := fGlo "_law_take"))).1, (He.ba (c.fact 24 (f := fGlo "_law_take"))).2⟩
  n_range := He.free_ok X G (c.fact 25 (f := fFree "range"))
  cl_Net := He.cls_ok (c.fact 26 (f := fCls "Net"))
  me_Net_post := He.meth_ok (c.fact 27 (f := fMeth "Net" "post"))
  me_Net_lane := He.meth_ok (c.fact 28 (f := fMeth "Net" "lane"))
  g_reached_posts := ⟨He.glo_ok X G (He.ba (c.fact 29 (f := fGlo "reached_posts"))).1, (He.ba (c.fact 29 (f := fGlo "reached_posts"))).2⟩
  g_first_missing := ⟨He.glo_ok X G (He.ba (c.fact 30 (f := fGlo "first_missing"))).1, (He.ba (c.fact 30 (f := fGlo "first_missing"))).2⟩
  g_parts_of := ⟨He.glo_ok X G (He.ba (c.fact 31 (f := fGlo "parts_of"))).1, (He.ba (c.fact 31 (f := fGlo "parts_of"))).2⟩
  g_part_with := ⟨He.glo_ok X G (He.ba (c.fact 32 (f := fGlo "part_with"))).1, (He.ba (c.fact 32 (f := fGlo "part_with"))).2⟩
  me_Net_end_of := He.meth_ok (c.fact 33 (f := fMeth "Net" "end_of"))
  me_Net_start_of := He.meth_ok (c.fact 34 (f := fMeth "Net" "start_of"))
  g_NoRound := ⟨He.glo_ok X G (He.ba (c.fact 35 (f := fGlo "NoRound"))).1, (He.ba (c.fact 35 (f := fGlo "NoRound"))).2⟩
  n_enumerate := He.free_ok X G (c.fact 36 (f := fFree "enumerate"))
  g_shortest_way := ⟨He.glo_ok X G (He.ba (c.fact 37 (f := fGlo "shortest_way"))).1, (He.ba (c.fact 37 (f := fGlo "shortest_way"))).2⟩
  x0_NothingWanted := He.exc_ok (c.fact 38 (f := fX0 "NothingWanted"))
  g_NothingWanted := ⟨He.glo_ok X G (He.ba (c.fact 39 (f := fGlo "NothingWanted"))).1, (He.ba (c.fact 39 (f := fGlo "NothingWanted"))).2⟩
  me_Net_copy := He.meth_ok (c.fact 40 (f := fMeth "Net" "copy"))
  pr_Net_lanes := prop_ok (c.fact 41 (f := fProp "Net" "lanes"))
  g_found_part := ⟨He.glo_ok X G (He.ba (c.fact 42 (f := fGlo "found_part"))).1, (He.ba (c.fact 42 (f := fGlo "found_part"))).2⟩
  g_closed_walk := ⟨He.glo_ok X G (He.ba (c.fact 43 (f := fGlo "closed_walk"))).1, (He.ba (c.fact 43 (f := fGlo "closed_walk"))).2⟩
  g_inner_ends := ⟨He.glo_ok X G (He.ba (c.fact 44 (f := fGlo "inner_ends"))).1, (He.ba (c.fact 44 (f := fGlo "inner_ends"))).2⟩
  cl_Asked := He.cls_ok (c.fact 45 (f := fCls "Asked"))
  pr_Asked_wanted := prop_ok (c.fact 46 (f := fProp "Asked" "wanted"))
  g_check_same := ⟨He.glo_ok X G (He.ba (c.fact 47 (f := fGlo "check_same"))).1, (He.ba (c.fact 47 (f := fGlo "check_same"))).2⟩
  sm_Asked_bool := sm_ok (c.fact 48 (f := fSm "Asked" "__bool__"))
  me_Asked_round := He.meth_ok (c.fact 49 (f := fMeth "Asked" "round"))
  me_Asked_part := He.meth_ok (c.fact 50 (f := fMeth "Asked" "part"))
  cl_Round := He.cls_ok (c.fact 51 (f := fCls "Round"))
  me_Round_root := He.meth_ok (c.fact 52 (f := fMeth "Round" "root"))
  g_single_ring := ⟨He.glo_ok X G (He.ba (c.fact 53 (f := fGlo "single_ring"))).1, (He.ba (c.fact 53 (f := fGlo "single_ring"))).2⟩
  g_law_ends := ⟨He.glo_ok X G (He.ba (c.fact 54 (f := fGlo "_law_ends"))).1, (He.ba (c.fact 54 (f := fGlo "_law_ends"))).2⟩
  g_law_ways := ⟨He.glo_ok X G (He.ba (c.fact 55 (f := fGlo "_law_ways"))).1, (He.ba (c.fact 55 (f := fGlo "_law_ways"))).2⟩
  g_law_lanes := ⟨He.glo_ok X G (He.ba (c.fact 56 (f := fGlo "_law_lanes"))).1, (He.ba (c.fact 56 (f := fGlo "_law_lanes"))).2⟩
  g_law_part := ⟨He.glo_ok X G (He.ba (c.fact 57 (f := fGlo "_law_part"))).1, (He.ba (c.fact 57 (f := fGlo "_law_part"))).2⟩
  g_law_is_held := ⟨He.glo_ok X G (He.ba (c.fact 58 (f := fGlo "_law_is_held"))).1, (He.ba (c.fact 58 (f := fGlo "_law_is_held"))).2⟩
  xc_NoRound := xcB_ok (c.fact 59 (f := fXc "NoRound"))
  xn_NoRound_side := He.noat_ok (c.fact 60 (f := fNoat "NoRound" "side"))
  xn_NoRound_second := He.noat_ok (c.fact 61 (f := fNoat "NoRound" "second"))
  xn_NoRound_first := He.noat_ok (c.fact 62 (f := fNoat "NoRound" "first"))
  xc_NoLane := xcB_ok (c.fact 63 (f := fXc "NoLane"))
  xn_NoLane_name := He.noat_ok (c.fact 64 (f := fNoat "NoLane" "name"))
  g_parting_round := ⟨He.glo_ok X G (He.ba (c.fact 65 (f := fGlo "parting_round"))).1, (He.ba (c.fact 65 (f := fGlo "parting_round"))).2⟩
  g_parting_stretch := ⟨He.glo_ok X G (He.ba (c.fact 66 (f := fGlo "parting_stretch"))).1, (He.ba (c.fact 66 (f := fGlo "parting_stretch"))).2⟩
  g_law_held_part := ⟨He.glo_ok X G (He.ba (c.fact 67 (f := fGlo "_law_held_part"))).1, (He.ba (c.fact 67 (f := fGlo "_law_held_part"))).2⟩
  g_law_is_round := ⟨He.glo_ok X G (He.ba (c.fact 68 (f := fGlo "_law_is_round"))).1, (He.ba (c.fact 68 (f := fGlo "_law_is_round"))).2⟩
  pr_Round_lanes := prop_ok (c.fact 69 (f := fProp "Round" "lanes"))
  g_law_pool := ⟨He.glo_ok X G (He.ba (c.fact 70 (f := fGlo "_law_pool"))).1, (He.ba (c.fact 70 (f := fGlo "_law_pool"))).2⟩
  g_law_cell := ⟨He.glo_ok X G (He.ba (c.fact 71 (f := fGlo "_law_cell"))).1, (He.ba (c.fact 71 (f := fGlo "_law_cell"))).2⟩
  g_law_many := ⟨He.glo_ok X G (He.ba (c.fact 72 (f := fGlo "_law_many"))).1, (He.ba (c.fact 72 (f := fGlo "_law_many"))).2⟩
  g_law_loose_net := ⟨He.glo_ok X G (He.ba (c.fact 73 (f := fGlo "_law_loose_net"))).1, (He.ba (c.fact 73 (f := fGlo "_law_loose_net"))).2⟩
  g_law_in_order := ⟨He.glo_ok X G (He.ba (c.fact 74 (f := fGlo "_law_in_order"))).1, (He.ba (c.fact 74 (f := fGlo "_law_in_order"))).2⟩
  mk_Asked := He.mkr_ok (c.fact 75 (f := fMkr "Asked"))
  g_Asked := ⟨He.glo_ok X G (He.ba (c.fact 76 (f := fGlo "Asked"))).1, (He.ba (c.fact 76 (f := fGlo "Asked"))).2⟩
  g_law_built := ⟨He.glo_ok X G (He.ba (c.fact 77 (f := fGlo "_law_built"))).1, (He.ba (c.fact 77 (f := fGlo "_law_built"))).2⟩
  g_law_told := ⟨He.glo_ok X G (He.ba (c.fact 78 (f := fGlo "_law_told"))).1, (He.ba (c.fact 78 (f := fGlo "_law_told"))).2⟩
  g_law_right_round := ⟨He.glo_ok X G (He.ba (c.fact 79 (f := fGlo "_law_right_round"))).1, (He.ba (c.fact 79 (f := fGlo "_law_right_round"))).2⟩
  g_law_pair := ⟨He.glo_ok X G (He.ba (c.fact 80 (f := fGlo "_law_pair"))).1, (He.ba (c.fact 80 (f := fGlo "_law_pair"))).2⟩
  g_law_right_side := ⟨He.glo_ok X G (He.ba (c.fact 81 (f := fGlo "_law_right_side"))).1, (He.ba (c.fact 81 (f := fGlo "_law_right_side"))).2⟩
  xc_BadName := xcB_ok (c.fact 82 (f := fXc "BadName"))
  xi_BadName := xi_ok (c.fact 83 (f := fXi "BadName"))
  xn_BadName_name := He.noat_ok (c.fact 84 (f := fNoat "BadName" "name"))
  xc_NameTaken := xcB_ok (c.fact 85 (f := fXc "NameTaken"))
  xi_NameTaken := xi_ok (c.fact 86 (f := fXi "NameTaken"))
  xn_NameTaken_name := He.noat_ok (c.fact 87 (f := fNoat "NameTaken" "name"))
  xc_NoPost := xcB_ok (c.fact 88 (f := fXc "NoPost"))
  xi_NoPost := xi_ok (c.fact 89 (f := fXi "NoPost"))
  xn_NoPost_name := He.noat_ok (c.fact 90 (f := fNoat "NoPost" "name"))
  xi_NoLane := xi_ok (c.fact 91 (f := fXi "NoLane"))
  xi_NoRound := xi_ok (c.fact 92 (f := fXi "NoRound"))
  g_law := ⟨He.glo_ok X G (He.ba (c.fact 93 (f := fGlo "law"))).1, (He.ba (c.fact 93 (f := fGlo "law"))).2⟩
  kt_NoneType_str := kit_ok (c.fact 94 (f := fKit "NoneType" "str" false))
  kt_bool_str := kit_ok (c.fact 95 (f := fKit "bool" "str" false))
  kt_int_str := kit_ok (c.fact 96 (f := fKit "int" "str" false))
  kt_list_str := kit_ok (c.fact 97 (f := fKit "list" "str" false))
  kt_tuple_str := kit_ok (c.fact 98 (f := fKit "tuple" "str" false))
  kt_str_str := kit_ok (c.fact 99 (f := fKit "str" "str" true))
  kt_NoneType_int := kit_ok (c.fact 100 (f := fKit "NoneType" "int" false))
  kt_str_int := kit_ok (c.fact 101 (f := fKit "str" "int" false))
  kt_list_int := kit_ok (c.fact 102 (f := fKit "list" "int" false))
  kt_tuple_int := kit_ok (c.fact 103 (f := fKit "tuple" "int" false))
  kt_int_int := kit_ok (c.fact 104 (f := fKit "int" "int" true))
  kt_int_bool := kit_ok (c.fact 105 (f := fKit "int" "bool" false))
  kt_bool_int := kit_ok (c.fact 106 (f := fKit "bool" "int" true))
  kt_bool_bool := kit_ok (c.fact 107 (f := fKit "bool" "bool" true))
  na_Net_order := He.noat_ok (c.fact 108 (f := fNoat "Net" "order"))
  na_Net_ends_by_lane := He.noat_ok (c.fact 109 (f := fNoat "Net" "ends_by_lane"))
  na_Round_line := He.noat_ok (c.fact 110 (f := fNoat "Round" "line"))
  na_Asked_base := He.noat_ok (c.fact 111 (f := fNoat "Asked" "base"))
  na_Asked_goal := He.noat_ok (c.fact 112 (f := fNoat "Asked" "goal"))
  ex_NoRound_NoLane := He.exm_ok (c.fact 113 (f := fExm "NoRound" "NoLane" false))
  ex_NoRound_NoRound := He.exm_ok (c.fact 114 (f := fExm "NoRound" "NoRound" true))
  ex_NoLane_NoLane := He.exm_ok (c.fact 115 (f := fExm "NoLane" "NoLane" true))
  d_is_name := c.def_ 0
  d_is_whole := c.def_ 1
  d_first_missing := c.def_ 2
  d_check_lanes := c.def_ 3
  d_Net___init := c.def_ 4
  d_Net_posts := c.def_ 5
  d_Net_lanes := c.def_ 6
  d_Net_post := c.def_ 7
  d_Net_lane := c.def_ 8
  d_Net_start_of := c.def_ 9
  d_Net_end_of := c.def_ 10
  d_Net_copy := c.def_ 11
  d_Round___init := c.def_ 12
  d_Round_lanes := c.def_ 13
  d_Round_root := c.def_ 14
  d_law_cell := c.def_ 15
  d_law_pool := c.def_ 16
  d_law_take := c.def_ 17
  d_law_many := c.def_ 18
  d_law_built := c.def_ 19
  d_law_ends := c.def_ 20
  d_law_ways := c.def_ 21
  d_shortest_way := c.def_ 22
  d_reached_posts := c.def_ 23
  d_parts_of := c.def_ 24
  d_part_with := c.def_ 25
  d_found_part := c.def_ 26
  d_inner_ends := c.def_ 27
  d_closed_walk := c.def_ 28
  d_Asked___init := c.def_ 29
  d_Asked_wanted := c.def_ 30
  d_Asked_part := c.def_ 31
  d_Asked_round := c.def_ 32
  d_Asked___bool := c.def_ 33
  d_check_same := c.def_ 34
  d_parting_round := c.def_ 35
  d_single_ring := c.def_ 36
  d_parting_stretch := c.def_ 37
  d_law_part := c.def_ 38
  d_law_in_order := c.def_ 39
  d_law_lanes := c.def_ 40
  d_law_is_held := c.def_ 41
  d_law_held_part := c.def_ 42
  d_law_is_round := c.def_ 43
  d_law_loose_net := c.def_ 44
  d_law_told := c.def_ 45
  d_law_pair := c.def_ 46
  d_law_right_side := c.def_ 47
  d_law_right_round := c.def_ 48
  d_law := c.def_ 49
  d_BadName___init := c.def_ 50
  d_NameTaken___init := c.def_ 51
  d_NoPost___init := c.def_ 52
  d_NoLane___init := c.def_ 53
  d_NoRound___init := c.def_ 54
section
variable {P : Program} {w : World} {K : PySem.W.Frag} {mg : Str → Option Value} {base : Heap}
theorem z_BadName (T : Tx K mg) : Xn P w K mg base (He.ga K "BadName") "name" := by
  obtain ⟨fd, F⟩ := T.d_BadName___init
  exact ⟨T.xc_BadName, T.xn_BadName_name, _, fd, "name", T.xi_BadName.1, T.xi_BadName.2, init1_ok F sc_BadName___init (fun cdv A outer s H E => pss_one (ps_ost (pv 0) (pv 1))), F.bindsN (fun _ _ _ _ _ _ us hl => match us, hl with | [_, _], _ => rfl)⟩
theorem z_NameTaken (T : Tx K mg) : Xn P w K mg base (He.ga K "NameTaken") "name" := by
  obtain ⟨fd, F⟩ := T.d_NameTaken___init
  exact ⟨T.xc_NameTaken, T.xn_NameTaken_name, _, fd, "name", T.xi_NameTaken.1, T.xi_NameTaken.2, init1_ok F sc_NameTaken___init (fun cdv A outer s H E => pss_one (ps_ost (pv 0) (pv 1))), F.bindsN (fun _ _ _ _ _ _ us hl => match us, hl with | [_, _], _ => rfl)⟩
theorem z_NoPost (T : Tx K mg) : Xn P w K mg base (He.ga K "NoPost") "name" := by
  obtain ⟨fd, F⟩ := T.d_NoPost___init
  exact ⟨T.xc_NoPost, T.xn_NoPost_name, _, fd, "name", T.xi_NoPost.1, T.xi_NoPost.2, init1_ok F sc_NoPost___init (fun cdv A outer s H E => pss_one (ps_ost (pv 0) (pv 1))), F.bindsN (fun _ _ _ _ _ _ us hl => match us, hl with | [_, _], _ => rfl)⟩
theorem z_NoLane (T : Tx K mg) : Xn P w K mg base (He.ga K "NoLane") "name" := by
  obtain ⟨fd, F⟩ := T.d_NoLane___init
  exact ⟨T.xc_NoLane, T.xn_NoLane_name, _, fd, "name", T.xi_NoLane.1, T.xi_NoLane.2, init1_ok F sc_NoLane___init (fun cdv A outer s H E => pss_one (ps_ost (pv 0) (pv 1))), F.bindsN (fun _ _ _ _ _ _ us hl => match us, hl with | [_, _], _ => rfl)⟩
theorem z_NoRound (T : Tx K mg) : X3 P w K mg base (He.ga K "NoRound") "first" "second" "side" := by
  obtain ⟨fd, F⟩ := T.d_NoRound___init
  exact ⟨T.xc_NoRound, T.xn_NoRound_first, T.xn_NoRound_second, T.xn_NoRound_side, _, fd, "first", "second", "side", T.xi_NoRound.1, T.xi_NoRound.2, init3_ok F sc_NoRound___init (fun cdv A outer s H E => pss_cons (ps_ost (pv 0) (pv 1)) (pss_cons (ps_ost (pv 0) (pv 2)) (pss_one (ps_ost (pv 0) (pv 3))))), F.bindsN (fun _ _ _ _ _ _ us hl => match us, hl with | [_, _, _, _], _ => rfl)⟩
theorem all_ok {fd : FuncData} (T : Tx K mg) (F : FunD K "law" "law" (defArgs s_law) (defBody s_law) (defScope s_law) [] [] (He.ga K "law") fd) : FnOk P w K mg base (L2.CX P w) 20 (He.ga K "law") fd ["_law_script"] (spC K (ct_law K)) := by
  have Z_BadName : Xn P w K mg base (He.ga K "BadName") "name" := z_BadName T
  have Z_NameTaken : Xn P w K mg base (He.ga K "NameTaken") "name" := z_NameTaken T
  have Z_NoPost : Xn P w K mg base (He.ga K "NoPost") "name" := z_NoPost T
  have Z_NoLane : Xn P w K mg base (He.ga K "NoLane") "name" := z_NoLane T
  have Z_NoRound : X3 P w K mg base (He.ga K "NoRound") "first" "second" "side" := z_NoRound T
  have F_is_name : Fn P w K mg base 4 (He.ga K "is_name") ["word"] (ct_is_name K) := ok_is_name T
  have F_is_whole : Fn P w K mg base 4 (He.ga K "is_whole") ["value"] (ct_is_whole K) := ok_is_whole T
  have F_first_missing : Fn P w K mg base 4 (He.ga K "first_missing") ["names", "known"] (ct_first_missing K) := ok_first_missing T
  have F_check_lanes : Fn P w K mg base 6 (He.ga K "check_lanes") ["lanes"] (ct_check_lanes K) := ok_check_lanes T F_is_name Z_BadName
  have F_Net___init : FnE P w K mg base 4 (He.ma K (He.ga K "Net") "__init__") ["self", "order", "ends_by_lane"] [.ref (He.dflAt ("Net", some "__init__") 0 K), .non] (ct_Net___init K) := ok_Net___init T
  have F_Net_posts : Fn P w K mg base 4 (pga K (He.ga K "Net") "posts") ["self"] (ct_Net_posts K) := ok_Net_posts T
  have F_Net_lanes : Fn P w K mg base 4 (pga K (He.ga K "Net") "lanes") ["self"] (ct_Net_lanes K) := ok_Net_lanes T
  have F_Net_post : Fn P w K mg base 6 (He.ma K (He.ga K "Net") "post") ["self", "name"] (ct_Net_post K) := ok_Net_post T F_is_name Z_BadName Z_NameTaken
  have F_Net_lane : Fn P w K mg base 6 (He.ma K (He.ga K "Net") "lane") ["self", "name", "start", "end"] (ct_Net_lane K) := ok_Net_lane T F_is_name Z_BadName Z_NameTaken Z_NoPost
  have F_Net_start_of : Fn P w K mg base 4 (He.ma K (He.ga K "Net") "start_of") ["self", "lane"] (ct_Net_start_of K) := ok_Net_start_of T Z_NoLane
  have F_Net_end_of : Fn P w K mg base 4 (He.ma K (He.ga K "Net") "end_of") ["self", "lane"] (ct_Net_end_of K) := ok_Net_end_of T Z_NoLane
  have F_Net_copy : Fn P w K mg base 6 (He.ma K (He.ga K "Net") "copy") ["self"] (ct_Net_copy K) := ok_Net_copy T F_Net___init
  have F_Round___init : Fn P w K mg base 8 (He.ma K (He.ga K "Round") "__init__") ["self", "lanes"] (ct_Round___init K) := ok_Round___init T F_check_lanes
  have F_Round_lanes : Fn P w K mg base 4 (pga K (He.ga K "Round") "lanes") ["self"] (ct_Round_lanes K) := ok_Round_lanes T
  have F_Round_root : Fn P w K mg base 10 (He.ma K (He.ga K "Round") "root") ["self"] (ct_Round_root K) := ok_Round_root T F_Round___init
  have F_law_cell : Fn P w K mg base 4 (He.ga K "_law_cell") ["_law_script", "_law_k"] (ct_law_cell K) := ok_law_cell T
  have F_law_pool : Fn P w K mg base 4 (He.ga K "_law_pool") ["_law_cell_here"] (ct_law_pool K) := ok_law_pool T
  have F_law_take : Fn P w K mg base 4 (He.ga K "_law_take") ["_law_pool_here", "_law_many_here"] (ct_law_take K) := ok_law_take T
  have F_law_many : Fn P w K mg base 6 (He.ga K "_law_many") ["_law_pool_here", "_law_many_here"] (ct_law_many K) := ok_law_many T F_law_take
  have F_law_built : Fn P w K mg base 8 (He.ga K "_law_built") ["_law_parts"] (ct_law_built K) := ok_law_built T F_Net___init F_Net_post F_Net_lane
  have F_law_ends : Fn P w K mg base 4 (He.ga K "_law_ends") ["_law_parts"] (ct_law_ends K) := ok_law_ends T
  have F_law_ways : Fn P w K mg base 4 (He.ga K "_law_ways") ["_law_parts", "_law_start"] (ct_law_ways K) := ok_law_ways T
  have F_shortest_way : Fn P w K mg base 4 (He.ga K "shortest_way") ["ends_by_lane", "first", "second"] (ct_shortest_way K) := ok_shortest_way T
  have F_reached_posts : Fn P w K mg base 4 (He.ga K "reached_posts") ["net", "start"] (ct_reached_posts K) := ok_reached_posts T
  have F_parts_of : Fn P w K mg base 6 (He.ga K "parts_of") ["net"] (ct_parts_of K) := ok_parts_of T F_first_missing F_reached_posts
  have F_part_with : Fn P w K mg base 8 (He.ga K "part_with") ["net", "wanted"] (ct_part_with K) := ok_part_with T F_first_missing F_parts_of
  have F_found_part : Fn P w K mg base 10 (He.ga K "found_part") ["net", "wanted"] (ct_found_part K) := ok_found_part T F_Net_start_of F_Net_end_of F_reached_posts F_part_with Z_NoRound
  have F_inner_ends : Fn P w K mg base 4 (He.ga K "inner_ends") ["net", "lanes"] (ct_inner_ends K) := ok_inner_ends T
  have F_closed_walk : Fn P w K mg base 6 (He.ga K "closed_walk") ["ends", "wanted"] (ct_closed_walk K) := ok_closed_walk T F_shortest_way
  have F_Asked___init : Fn P w K mg base 8 (He.ma K (He.ga K "Asked") "__init__") ["self", "net", "wanted"] (ct_Asked___init K) := ok_Asked___init T F_first_missing F_Net_lanes F_Net_copy Z_NoLane
  have F_Asked_wanted : Fn P w K mg base 4 (pga K (He.ga K "Asked") "wanted") ["self"] (ct_Asked_wanted K) := ok_Asked_wanted T
  have F_Asked_part : Fn P w K mg base 12 (He.ma K (He.ga K "Asked") "part") ["self"] (ct_Asked_part K) := ok_Asked_part T F_found_part
  have F_Asked_round : Fn P w K mg base 12 (He.ma K (He.ga K "Asked") "round") ["self"] (ct_Asked_round K) := ok_Asked_round T F_Round___init F_found_part F_inner_ends F_closed_walk
  have F_Asked___bool : Fn P w K mg base 10 (He.ma K (He.ga K "Asked") "__bool__") ["self"] (ct_Asked___bool K) := ok_Asked___bool T F_part_with
  have F_check_same : Fn P w K mg base 6 (He.ga K "check_same") ["one", "two"] (ct_check_same K) := ok_check_same T F_first_missing F_Asked_wanted Z_NoLane
  have F_parting_round : Fn P w K mg base 14 (He.ga K "parting_round") ["one", "two"] (ct_parting_round K) := ok_parting_round T F_Asked_round F_Asked___bool F_check_same
  have F_single_ring : Fn P w K mg base 14 (He.ga K "single_ring") ["asked"] (ct_single_ring K) := ok_single_ring T F_Round_root F_Asked_part F_Asked_round
  have F_parting_stretch : Fn P w K mg base 16 (He.ga K "parting_stretch") ["one", "two"] (ct_parting_stretch K) := ok_parting_stretch T F_check_same F_single_ring
  have F_law_part : Fn P w K mg base 6 (He.ga K "_law_part") ["_law_parts", "_law_lane"] (ct_law_part K) := ok_law_part T F_law_ends F_law_ways
  have F_law_in_order : Fn P w K mg base 4 (He.ga K "_law_in_order") ["_law_parts", "_law_lanes_here"] (ct_law_in_order K) := ok_law_in_order T
  have F_law_lanes : Fn P w K mg base 4 (He.ga K "_law_lanes") ["_law_parts"] (ct_law_lanes K) := ok_law_lanes T
  have F_law_is_held : Fn P w K mg base 8 (He.ga K "_law_is_held") ["_law_parts", "_law_lanes_here"] (ct_law_is_held K) := ok_law_is_held T F_law_part F_law_lanes
  have F_law_held_part : Fn P w K mg base 10 (He.ga K "_law_held_part") ["_law_parts", "_law_wanted"] (ct_law_held_part K) := ok_law_held_part T F_law_part F_law_is_held
  have F_law_is_round : Fn P w K mg base 6 (He.ga K "_law_is_round") ["_law_parts", "_law_lanes_here", "_law_wanted"] (ct_law_is_round K) := ok_law_is_round T F_law_ends
  have F_law_loose_net : Fn P w K mg base 6 (He.ga K "_law_loose_net") ["_law_pool_here", "_law_posts", "_law_lanes_here"] (ct_law_loose_net K) := ok_law_loose_net T F_law_take
  have F_law_told : Fn P w K mg base 18 (He.ga K "_law_told") ["_law_kind", "_law_one", "_law_two"] (ct_law_told K) := ok_law_told T F_parting_round F_parting_stretch
  have F_law_pair : Fn P w K mg base 6 (He.ga K "_law_pair") ["_law_parts", "_law_wanted"] (ct_law_pair K) := ok_law_pair T F_law_ends F_law_ways
  have F_law_right_side : Fn P w K mg base 6 (He.ga K "_law_right_side") ["_law_parts", "_law_pair_here", "_law_side"] (ct_law_right_side K) := ok_law_right_side T F_law_ends
  have F_law_right_round : Fn P w K mg base 12 (He.ga K "_law_right_round") ["_law_parts", "_law_other", "_law_wanted", "_law_told_here"] (ct_law_right_round K) := ok_law_right_round T F_Round_lanes F_law_held_part F_law_is_round
  exact ok_law T F_law_cell F_law_pool F_law_take F_law_many F_law_built F_Asked___init F_law_in_order F_law_held_part F_law_loose_net F_law_told F_law_pair F_law_right_side F_law_right_round F
end
end K66
open PySem PySem.W PySem.Calls PyProof.Rows
theorem PySem.Challenge.cw_alsoshown_k66_comparing_refused_holds : PySem.Challenge.rw_alsoshown_k66_comparing_refused.Holds := by
  w_on; o_law
  refine HandSHeadRun.head_any (r := K66.R) (q := K66.qv) (H := K66.hk) (ob := K66.ob) (M := 14000) (loose := K66.names) (d := HandSHeadRun.topDef K66.R.prog 116) (kwd := []) K66.ob_eq
    (by kernel_rfl) (fun s => by kernel_rfl) K66.run (by kernel_rfl) (by kernel_rfl) (by kernel_rfl) (by rfl) (by first | assumption | decide +kernel) (by decide +kernel) ⟨rfl, rfl, rfl, rfl, rfl, by decide +kernel⟩ ?hw ?hc
  case hw => w_witness2
  case hc =>
    refine DL.walk_D (l := PySem.Challenge.rw_alsoshown_k66_comparing_refused) (n := 63) (k := 20) (x := "_law_script") rfl (by decide) (by kernel_rfl) ⟨rfl, by decide, by decide⟩ ?F
    intro w mg fa h Y G hmg0
    obtain ⟨K, KX, c⟩ := Y
    have hmg : mg ("law" : PySem.Str) = some (.ref fa) := by
      have e : (HandSHeadRun.topDef K66.R.prog 116).name = ("law" : PySem.Str) := by kernel_rfl
      rw [← e]
      exact hmg0
    have T := K66.tx_of KX G c
    obtain ⟨fd, F⟩ := T.d_law
    have e := hmg.symm.trans T.g_law.1
    cases e
    exact ⟨K, K66.ct_law K, fd, KX, fun z ns hs => ⟨z, rfl, ns, hs, rfl, rfl⟩, fun s v => L2.FunD.bindsA (ps := ["_law_script"]) F (fun _ _ _ _ _ _ us hl => match us, hl with | [_], _ => rfl) s [v] rfl, fun base => K66.all_ok T F⟩


